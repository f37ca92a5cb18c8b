import PyProof.Rows.All
import HandS.ForMost
import HandS.Lambda
import HandS.ForExc
import HandS.Wide
import HandS.Walk
import HandS.CallSlots
import HandS.Deep
import HandS.TupAny
import HandS.Style
import HandS.RaiseMore
import HandS.FStrTup
import PyProof.ReprRoads
import HandS.IsInst
import HandS.Iter
import KE.GoesEnum
import PyProof.Rows.SumAny
import HandS.TupLen
import HandS.WordsDict
import HandS.Star
import KE.SortKeyHeap
import HandS.SortKw
import HandS.Zip
import HandS.TryOnly
import KE.DatumOrd
import HandS.Gcd
import HandS.EndBits
import HandS.EndTab
import KE.SortKeyed
import Wide.All
import OpenK.AllK
import Wide.FinOn
import KE.KNestM
import KE.KLam
import PySem.Challenge.RW_gapwise_k10_shapes
set_option Elab.async false
set_option linter.all false
set_option maxRecDepth 100000
/-! L3a: values as trees, how they lie in the abstract heap; slots; what is kept. -/
namespace L3
open PySem PySem.Spec PyProof.Rows L2

/-- a value as a tree -/
inductive T where
  | non | bl (b : Bool) | int (i : Int) | str (x : Str)
  | lst (xs : List T) | tup (xs : List T) | dct (kvs : List (T × T))
  | fn (f : Str) | src (k : Nat) (a : Addr) | ex (a : Addr)

def keyT : Key → T
  | .inl i => .int i
  | .inr x => .str x

/-- what else the trees may speak of -/
structure Ctx where
  K : PySem.W.Frag
  mg : Str → Option Value
  /-- the drawn source at an address -/
  src : Nat → Hp → Addr → Prop
  /-- the tables of code objects that may grow, each with its lambdas' name -/
  tabs : List (Addr × Str) := []

mutual
/-- the tree d lies at v: its lists and dicts are all of F -/
inductive D (C : Ctx) (H : Hp) (F : Addr → Prop) : V → T → Prop
  | non : D C H F .non .non
  | bl (b : Bool) : D C H F (.bl b) (.bl b)
  | int (i : Int) : D C H F (.int i) (.int i)
  | str (x : Str) : D C H F (.str x) (.str x)
  | lst {a : Addr} {xs : List V} {ds : List T} : H a = some (.lst xs) → F a → Ds C H F xs ds → D C H F (.ref a) (.lst ds)
  | tup {a : Addr} {xs : List V} {ds : List T} : SqT C.K H a xs → Ds C H F xs ds → D C H F (.ref a) (.tup ds)
  | dctK {a : Addr} {kvs : List (Key × V)} {ds : List T} : H a = some (.dK kvs) → F a → Ds C H F (kvs.map (·.2)) ds → D C H F (.ref a) (.dct ((kvs.map fun p => keyT p.1).zip ds))
  | dctT {a : Addr} {kvs : List (List Key × V)} {ds : List T} : H a = some (.dT kvs) → F a → Ds C H F (kvs.map (·.2)) ds → D C H F (.ref a) (.dct ((kvs.map fun p => T.tup (p.1.map keyT)).zip ds))
  | fn {f : Str} {a : Addr} : C.mg f = some (.ref a) → D C H F (.ref a) (.fn f)
  | src {k : Nat} {a : Addr} : C.src k H a → D C H F (.ref a) (.src k a)
inductive Ds (C : Ctx) (H : Hp) (F : Addr → Prop) : List V → List T → Prop
  | nil : Ds C H F [] []
  | cons {v : V} {vs : List V} {d : T} {ds : List T} : D C H F v d → Ds C H F vs ds → Ds C H F (v :: vs) (d :: ds)
end

/-- things that are written to by their owner alone -/
def LD : HO → Prop
  | .lst _ => True
  | .dK _ => True
  | .dT _ => True
  | .set _ _ => True
  | _ => False

/-- no table of code objects -/
def NT (o : HO) : Prop := ∀ ps, o ≠ .tbl ps
theorem LD.nt {o : HO} (h : LD o) : NT o := fun ps e => by subst e; exact h
/-- from (F, H) on to (F', H'): whatever is of F, and all that is no list, no dict, no table, stays -/
structure Later (F : Addr → Prop) (H : Hp) (F' : Addr → Prop) (H' : Hp) : Prop where
  rd : ∀ b u, ¬ LD u → NT u → H b = some u → H' b = some u
  ls : ∀ b o, F b → LD o → H b = some o → H' b = some o
  fz : ∀ b, F b → F' b
/-- .. nothing at all is written, but that tables of code objects grow -/
structure Ext (C : Ctx) (F : Addr → Prop) (H : Hp) (F' : Addr → Prop) (H' : Hp) : Prop where
  same : ∀ b o, H b = some o → NT o → H' b = some o
  fz : ∀ b, F b → F' b
  new : ∀ b, F' b → F b ∨ (H b = none ∧ ∃ o, H' b = some o)
  trk : ∀ b o, H b = some o → ∃ o', H' b = some o'
  tab : ∀ p ∈ C.tabs, LamX.TabS H p.1 p.2 → LamX.TabS H' p.1 p.2
variable {C : Ctx}
theorem Ext.of {F F' : Addr → Prop} {H H' : Hp} (same : ∀ b o, H b = some o → H' b = some o) (fz : ∀ b, F b → F' b) (new : ∀ b, F' b → F b ∨ (H b = none ∧ ∃ o, H' b = some o)) : Ext C F H F' H' :=
  ⟨fun b o h _ => same b o h, fz, new, fun b o h => ⟨o, same b o h⟩, fun _ _ t => t.ext same⟩
theorem Later.refl {F : Addr → Prop} {H : Hp} : Later F H F H := ⟨fun _ _ _ _ h => h, fun _ _ _ _ h => h, fun _ h => h⟩
theorem Later.trans {F F1 F2 : Addr → Prop} {H H1 H2 : Hp} (a : Later F H F1 H1) (b : Later F1 H1 F2 H2) : Later F H F2 H2 :=
  ⟨fun c u z n h => b.rd c u z n (a.rd c u z n h), fun c o z l h => b.ls c o (a.fz c z) l (a.ls c o z l h), fun c h => b.fz c (a.fz c h)⟩
theorem Ext.refl {F : Addr → Prop} {H : Hp} : Ext C F H F H := .of (fun _ _ h => h) (fun _ h => h) fun _ h => .inl h
theorem Ext.not_none {F F1 : Addr → Prop} {H H1 : Hp} (a : Ext C F H F1 H1) {b : Addr} (h : H1 b = none) : H b = none := by
  cases e : H b with
  | none => rfl
  | some o =>
    obtain ⟨o', h'⟩ := a.trk b o e
    rw [h] at h'; cases h'
theorem Ext.trans {F F1 F2 : Addr → Prop} {H H1 H2 : Hp} (a : Ext C F H F1 H1) (b : Ext C F1 H1 F2 H2) : Ext C F H F2 H2 :=
  ⟨fun c o h n => b.same c o (a.same c o h n) n, fun c h => b.fz c (a.fz c h), fun c h => by
    rcases b.new c h with z | ⟨z, o, ho⟩
    · exact (a.new c z).imp id fun ⟨h1, o, h2⟩ => ⟨h1, b.trk c o h2⟩
    · exact .inr ⟨a.not_none z, o, ho⟩, fun c o h => (a.trk c o h).elim fun o' h' => b.trk c o' h', fun P q t => b.tab P q (a.tab P q t)⟩
theorem Ext.later {F F1 : Addr → Prop} {H H1 : Hp} (a : Ext C F H F1 H1) : Later F H F1 H1 :=
  ⟨fun c u _ n h => a.same c u h n, fun c o _ l h => a.same c _ h l.nt, a.fz⟩

/-- the source's own word stays -/
def SrcStays (C : Ctx) : Prop := ∀ (k : Nat) (H H' : Hp) (a : Addr), C.src k H a → (∀ b u, ¬ LD u → NT u → H b = some u → H' b = some u) → C.src k H' a

section
variable {C : Ctx} {F F' : Addr → Prop} {H H' : Hp}

theorem SqT.laterK {a : Addr} {xs : List V} (h : SqT C.K H a xs) (l : Later F H F' H') : SqT C.K H' a xs := by
  rcases h with h | h
  · rcases h with h | ⟨o, h⟩
    · exact .inl (.inl (l.rd a _ (fun z => z) (fun _ z => nomatch z) h))
    · exact .inl (.inr ⟨o, l.rd a _ (fun z => z) (fun _ z => (nomatch z)) h⟩)
  · exact .inr h

theorem D.later {v : V} {d : T} (h : D C H F v d) (hs : SrcStays C) (l : Later F H F' H') : D C H' F' v d :=
  D.rec (motive_1 := fun v d _ => D C H' F' v d) (motive_2 := fun vs ds _ => Ds C H' F' vs ds)
    .non .bl .int .str (fun h1 h2 _ ih => .lst (l.ls _ _ h2 trivial h1) (l.fz _ h2) ih) (fun h1 _ ih => .tup (SqT.laterK h1 l) ih)
    (fun h1 h2 _ ih => .dctK (l.ls _ _ h2 trivial h1) (l.fz _ h2) ih) (fun h1 h2 _ ih => .dctT (l.ls _ _ h2 trivial h1) (l.fz _ h2) ih) (fun h => .fn h)
    (fun h => .src (hs _ H H' _ h fun b u z n r => l.rd b u z n r)) .nil (fun _ _ i1 i2 => .cons i1 i2) h
theorem Ds.later {vs : List V} {ds : List T} (h : Ds C H F vs ds) (hs : SrcStays C) (l : Later F H F' H') : Ds C H' F' vs ds := by
  induction vs generalizing ds with
  | nil => cases h; exact .nil
  | cons v vs ih =>
    cases h with
    | cons h1 h2 => exact .cons (h1.later hs l) (ih h2)
theorem Ds.length {vs : List V} {ds : List T} (h : Ds C H F vs ds) : vs.length = ds.length := by
  induction vs generalizing ds with
  | nil => cases h; rfl
  | cons v vs ih =>
    cases h with
    | cons h1 h2 => rw [List.length_cons, List.length_cons, ih h2]
theorem Ds.get {vs : List V} {ds : List T} {i : Nat} {d : T} (h : Ds C H F vs ds) (e : ds[i]? = some d) : ∃ v, vs[i]? = some v ∧ D C H F v d := by
  induction vs generalizing ds i with
  | nil => cases h; simp at e
  | cons v vs ih =>
    cases h with
    | cons h1 h2 =>
      cases i with
      | zero => simp at e; subst e; exact ⟨v, rfl, h1⟩
      | succ i => exact ih h2 (by simpa using e)
theorem Ds.get' {vs : List V} {ds : List T} {i : Nat} {v : V} (h : Ds C H F vs ds) (e : vs[i]? = some v) : ∃ d, ds[i]? = some d ∧ D C H F v d := by
  induction vs generalizing ds i with
  | nil => simp at e
  | cons w vs ih =>
    cases h with
    | cons h1 h2 =>
      cases i with
      | zero => simp at e; subst e; exact ⟨_, rfl, h1⟩
      | succ i =>
        obtain ⟨d, h3, h4⟩ := ih (i := i) h2 (by simpa using e)
        exact ⟨d, by simpa using h3, h4⟩
theorem Ds.append {vs ws : List V} {ds es : List T} (h : Ds C H F vs ds) (g : Ds C H F ws es) : Ds C H F (vs ++ ws) (ds ++ es) := by
  induction vs generalizing ds with
  | nil => cases h; exact g
  | cons v vs ih =>
    cases h with
    | cons h1 h2 => exact .cons h1 (ih h2)
theorem Ds.take {vs : List V} {ds : List T} (n : Nat) (h : Ds C H F vs ds) : Ds C H F (vs.take n) (ds.take n) := by
  induction n generalizing vs ds with
  | zero => exact .nil
  | succ n ih =>
    cases vs with
    | nil => cases h; exact .nil
    | cons v vs =>
      cases h with
      | cons h1 h2 => exact .cons h1 (ih h2)
theorem Ds.drop {vs : List V} {ds : List T} (n : Nat) (h : Ds C H F vs ds) : Ds C H F (vs.drop n) (ds.drop n) := by
  induction n generalizing vs ds with
  | zero => exact h
  | succ n ih =>
    cases vs with
    | nil => cases h; exact .nil
    | cons v vs =>
      cases h with
      | cons h1 h2 => exact ih h2
theorem Ds.reverse {vs : List V} {ds : List T} (h : Ds C H F vs ds) : Ds C H F vs.reverse ds.reverse := by
  induction vs generalizing ds with
  | nil => cases h; exact .nil
  | cons v vs ih =>
    cases h with
    | cons h1 h2 => rw [List.reverse_cons, List.reverse_cons]; exact (ih h2).append (.cons h1 .nil)
/-- a list as the rules want it -/
theorem D.sql {a : Addr} {ds : List T} (h : D C H F (.ref a) (.lst ds)) : ∃ xs, SqL C.K H a xs ∧ Ds C H F xs ds := by
  cases h with
  | lst h1 h2 h3 => exact ⟨_, .inl (.inl h1), h3⟩
theorem D.sqt {a : Addr} {ds : List T} (h : D C H F (.ref a) (.tup ds)) : ∃ xs, SqT C.K H a xs ∧ Ds C H F xs ds := by
  cases h with
  | tup h1 h2 => exact ⟨_, h1, h2⟩
theorem D.lref {v : V} {ds : List T} (h : D C H F v (.lst ds)) : ∃ a, v = .ref a := by
  cases h <;> exact ⟨_, rfl⟩
theorem D.tref {v : V} {ds : List T} (h : D C H F v (.tup ds)) : ∃ a, v = .ref a := by
  cases h <;> exact ⟨_, rfl⟩
theorem D.int_eq {v : V} {i : Int} (h : D C H F v (.int i)) : v = .int i := by cases h; rfl
theorem D.bl_eq {v : V} {i : Bool} (h : D C H F v (.bl i)) : v = .bl i := by cases h; rfl
theorem D.str_eq {v : V} {i : Str} (h : D C H F v (.str i)) : v = .str i := by cases h; rfl
theorem D.non_eq {v : V} (h : D C H F v .non) : v = .non := by cases h; rfl
end
end L3

/-! L3b: slots, the judgements on trees, expressions. -/
namespace L3
open PySem PySem.Spec PyProof.Rows L2

/-- what a name holds: nothing known | a tree that nobody writes to | a list or dict of this frame's own (k = 1: its parts are trees as above; k = 2: its parts are own ones again) -/
inductive Slot where
  | un
  | sh (d : T)
  | own (k : Nat) (d : T)
abbrev Rho := List Slot

/-- the object at a is told by d, its parts by R -/
def Root (H : Hp) (R : List V → List T → Prop) (a : Addr) (d : T) : Prop :=
  (∃ xs ds, d = .lst ds ∧ H a = some (.lst xs) ∧ R xs ds) ∨
  (∃ (kvs : List (Key × V)) (ds : List T), d = .dct ((kvs.map fun p => keyT p.1).zip ds) ∧ H a = some (.dK kvs) ∧ R (kvs.map (·.2)) ds) ∨
  (∃ (kvs : List (List Key × V)) (ds : List T), d = .dct ((kvs.map fun p => T.tup (p.1.map keyT)).zip ds) ∧ H a = some (.dT kvs) ∧ R (kvs.map (·.2)) ds)
inductive OwnL (P : Addr → T → Prop) : List V → List T → Prop
  | nil : OwnL P [] []
  | cons {a : Addr} {vs : List V} {d : T} {ds : List T} : P a d → OwnL P vs ds → OwnL P (.ref a :: vs) (d :: ds)
def OwnAt (C : Ctx) (H : Hp) (F : Addr → Prop) : Nat → Addr → T → Prop
  | 0, _, _ => False
  | 1, a, d => ¬ F a ∧ Root H (Ds C H F) a d
  | k + 2, a, d => ¬ F a ∧ Root H (OwnL (OwnAt C H F (k + 1))) a d
def refOf : V → Option Addr
  | .ref a => some a
  | _ => none
/-- the addresses right below a -/
def kids (H : Hp) (a : Addr) : List Addr :=
  match H a with
  | some (.lst xs) => xs.filterMap refOf
  | some (.dK kvs) => kvs.filterMap fun p => refOf p.2
  | some (.dT kvs) => kvs.filterMap fun p => refOf p.2
  | _ => []
/-- what the frame owns there -/
def owned (H : Hp) : Nat → Addr → List Addr
  | 0, _ => []
  | 1, a => [a]
  | k + 2, a => a :: (kids H a).flatMap (owned H (k + 1))
def ownS (H : Hp) : Slot → Option V → List Addr
  | .own k _, some (.ref a) => owned H k a
  | _, _ => []
def ownI (H : Hp) (ρ : Rho) (σ : L2.St) (i : Nat) : List Addr := ownS H (ρ.getD i .un) (σ.getD i none)

def SlotR (C : Ctx) (H : Hp) (F : Addr → Prop) : Slot → Option V → Prop
  | .un, _ => True
  | .sh d, x => ∃ v, x = some v ∧ D C H F v d
  | .own k d, x => ∃ a, x = some (.ref a) ∧ OwnAt C H F k a d
structure RelS (C : Ctx) (F : Addr → Prop) (H : Hp) (ρ : Rho) (σ : L2.St) : Prop where
  len : ρ.length = σ.length
  slot : ∀ i s, ρ[i]? = some s → SlotR C H F s (σ.getD i none)
  apart : ∀ i j b, b ∈ ownI H ρ σ i → b ∈ ownI H ρ σ j → i = j
  nodup : ∀ i, (ownI H ρ σ i).Nodup
  live : ∀ i b, b ∈ ownI H ρ σ i → ¬ F b ∧ ∃ o, H b = some o ∧ LD o
  dom : ∀ b, F b → ∃ o, H b = some o
  tabs : ∀ p ∈ C.tabs, LamX.TabS H p.1 p.2

section
variable {C : Ctx} {F F' : Addr → Prop} {H H' : Hp}
theorem Root.imp {R R' : List V → List T → Prop} {a : Addr} {d : T} (h : Root H R a d) (e : H' a = H a) (hr : ∀ xs ds, R xs ds → R' xs ds) : Root H' R' a d := by
  rcases h with ⟨xs, ds, e1, e2, r⟩ | ⟨xs, ds, e1, e2, r⟩ | ⟨xs, ds, e1, e2, r⟩
  · exact .inl ⟨xs, ds, e1, e.trans e2, hr _ _ r⟩
  · exact .inr (.inl ⟨xs, ds, e1, e.trans e2, hr _ _ r⟩)
  · exact .inr (.inr ⟨xs, ds, e1, e.trans e2, hr _ _ r⟩)
theorem Root.live {R : List V → List T → Prop} {a : Addr} {d : T} (h : Root H R a d) : ∃ o, H a = some o ∧ LD o := by
  rcases h with ⟨xs, ds, e1, e2, r⟩ | ⟨xs, ds, e1, e2, r⟩ | ⟨xs, ds, e1, e2, r⟩ <;> exact ⟨_, e2, trivial⟩
theorem OwnAt.root : ∀ {k : Nat} {a : Addr} {d : T}, OwnAt C H F k a d → ¬ F a ∧ ∃ o, H a = some o ∧ LD o
  | 0, _, _, h => h.elim
  | 1, _, _, h => ⟨h.1, h.2.live⟩
  | _ + 2, _, _, h => ⟨h.1, h.2.live⟩
theorem OwnL.imp {P P' : Addr → T → Prop} {vs : List V} {ds : List T} (h : OwnL P vs ds) (hp : ∀ a d, .ref a ∈ vs → P a d → P' a d) : OwnL P' vs ds := by
  induction h with
  | nil => exact .nil
  | cons h1 _ ih => exact .cons (hp _ _ List.mem_cons_self h1) (ih fun a d m => hp a d (List.mem_cons_of_mem _ m))
/-- nothing was written -/
theorem OwnAt.ext (hs : SrcStays C) (x : Ext C F H F' H') : ∀ {k : Nat} {a : Addr} {d : T}, OwnAt C H F k a d → OwnAt C H' F' k a d
  | 0, _, _, h => h
  | 1, a, d, h => by
    obtain ⟨o, ho, lo⟩ := h.2.live
    refine ⟨fun z => ?_, h.2.imp (by rw [x.same a o ho (LD.nt lo), ho]) fun xs ds r => r.later hs x.later⟩
    rcases x.new a z with q | ⟨q, _⟩
    · exact h.1 q
    · rw [ho] at q; cases q
  | k + 2, a, d, h => by
    obtain ⟨o, ho, lo⟩ := h.2.live
    refine ⟨fun z => ?_, h.2.imp (by rw [x.same a o ho (LD.nt lo), ho]) fun xs ds r => r.imp fun b d _ q => OwnAt.ext hs x q⟩
    rcases x.new a z with q | ⟨q, _⟩
    · exact h.1 q
    · rw [ho] at q; cases q
theorem owned_ext (x : ∀ b o, H b = some o → LD o → H' b = some o) : ∀ (k : Nat) (a : Addr) (hl : ∀ b ∈ owned H k a, ∃ o, H b = some o ∧ LD o), owned H' k a = owned H k a
  | 0, _, _ => rfl
  | 1, _, _ => rfl
  | k + 2, a, hl => by
    obtain ⟨o, ho, lo⟩ := hl a List.mem_cons_self
    have e : kids H' a = kids H a := by unfold kids; rw [x a o ho lo, ho]
    show a :: (kids H' a).flatMap (owned H' (k + 1)) = a :: (kids H a).flatMap (owned H (k + 1))
    rw [e]
    congr 1
    have : ∀ l : List Addr, (∀ c ∈ l, ∀ b ∈ owned H (k + 1) c, ∃ o, H b = some o ∧ LD o) → l.flatMap (owned H' (k + 1)) = l.flatMap (owned H (k + 1)) := by
      intro l
      induction l with
      | nil => intro _; rfl
      | cons c l ih =>
        intro hc
        rw [List.flatMap_cons, List.flatMap_cons, owned_ext x (k + 1) c (hc c List.mem_cons_self), ih fun c' m => hc c' (List.mem_cons_of_mem _ m)]
    exact this _ fun c hc b hb => hl b (List.mem_cons_of_mem _ (List.mem_flatMap.mpr ⟨c, hc, hb⟩))
theorem ownI_ext {ρ : Rho} {σ : L2.St} (x : ∀ b o, H b = some o → LD o → H' b = some o) (i : Nat) (hl : ∀ b ∈ ownI H ρ σ i, ∃ o, H b = some o ∧ LD o) : ownI H' ρ σ i = ownI H ρ σ i := by
  unfold ownI ownS at *
  split at hl
  · exact owned_ext x _ _ hl
  · rfl
theorem SlotR.ext (hs : SrcStays C) (x : Ext C F H F' H') {s : Slot} {v : Option V} (h : SlotR C H F s v) : SlotR C H' F' s v := by
  cases s with
  | un => trivial
  | sh d => obtain ⟨v, e, h⟩ := h; exact ⟨v, e, h.later hs x.later⟩
  | own k d => obtain ⟨a, e, h⟩ := h; exact ⟨a, e, h.ext hs x⟩
theorem RelS.ext {ρ : Rho} {σ : L2.St} (hs : SrcStays C) (x : Ext C F H F' H') (r : RelS C F H ρ σ) : RelS C F' H' ρ σ := by
  have e : ∀ i, ownI H' ρ σ i = ownI H ρ σ i := fun i => ownI_ext (fun b o h l => x.same b o h l.nt) i fun b hb => (r.live i b hb).2
  refine ⟨r.len, fun i s hi => (r.slot i s hi).ext hs x, fun i j b h1 h2 => r.apart i j b (by rwa [e] at h1) (by rwa [e] at h2), fun i => by rw [e]; exact r.nodup i, fun i b hb => ?_, fun b z => ?_, fun p hp => x.tab p hp (r.tabs p hp)⟩
  · rw [e] at hb
    obtain ⟨h1, o, ho, lo⟩ := r.live i b hb
    refine ⟨fun z => ?_, o, x.same b o ho lo.nt, lo⟩
    rcases x.new b z with q | ⟨q, _⟩
    · exact h1 q
    · rw [ho] at q; cases q
  · rcases x.new b z with q | ⟨_, o, q⟩
    · obtain ⟨o, ho⟩ := r.dom b q
      exact x.trk b o ho
    · exact ⟨o, q⟩
theorem RelS.sh {ρ : Rho} {σ : L2.St} {i : Nat} {d : T} (r : RelS C F H ρ σ) (h : ρ[i]? = some (.sh d)) : ∃ v, σ[i]? = some (some v) ∧ D C H F v d := by
  obtain ⟨v, e, q⟩ := r.slot i _ h
  refine ⟨v, ?_, q⟩
  rw [List.getD_eq_getElem?_getD] at e
  cases h2 : σ[i]? with
  | none => rw [h2] at e; cases e
  | some x => rw [h2] at e; rw [show x = some v from e]
end

/-! ### the judgements -/
/-- an exception as trees: the name of its class, its fields -/
structure Ex where
  cls : Str
  fs : List (Str × T)
/-- a wish about exceptions at the slots -/
def ExR (C : Ctx) (F : Addr → Prop) (H : Hp) (cls : Value) (dx : Option Addr) (x : Ex) : Prop :=
  ∃ (c d : Addr) (fs : List (Str × V)), cls = .ref c ∧ C.mg x.cls = some (.ref c) ∧ dx = some d ∧ H d = some (.xd fs) ∧ fs.map (·.1) = x.fs.map (·.1) ∧ Ds C H F (fs.map (·.2)) (x.fs.map (·.2))

abbrev WE := Rho → (T → Prop) → (Ex → Prop) → Prop
abbrev WA := Rho → (List T → Prop) → (Ex → Prop) → Prop
abbrev WT := Rho → (Bool → Prop) → (Ex → Prop) → Prop

/-- what happens to an exception here -/
def ExOut (C : Ctx) (W : WX) (F : Addr → Prop) (H : Hp) (σ : L2.St) (Ev : Ex → Prop) : Prop :=
  ∀ cls dx F' H' x, Ext C F H F' H' → ExR C F' H' cls dx x → Ev x → W cls dx σ H'
theorem ExOut.ext {C : Ctx} {W : WX} {F F' : Addr → Prop} {H H' : Hp} {σ : L2.St} {Ev : Ex → Prop} (h : ExOut C W F H σ Ev) (x : Ext C F H F' H') : ExOut C W F' H' σ Ev :=
  fun cls dx F2 H2 e x2 r q => h cls dx F2 H2 e (x.trans x2) r q

def cE (C : Ctx) (W : WX) (w : WE) : TE := fun σ H Q => ∃ F ρ Qv Ev, RelS C F H ρ σ ∧ w ρ Qv Ev ∧ (∀ v d F' H', Ext C F H F' H' → D C H' F' v d → Qv d → Q v H') ∧ ExOut C W F H σ Ev
/-- a new object of the frame's own -/
def cF (C : Ctx) (W : WX) (k : Nat) (w : WE) : TE := fun σ H Q => ∃ F ρ Qv Ev, RelS C F H ρ σ ∧ w ρ Qv Ev ∧
  (∀ a d F' H', Ext C F H F' H' → OwnAt C H' F' k a d → (owned H' k a).Nodup → (∀ b ∈ owned H' k a, ¬ F' b ∧ H b = none ∧ ∃ o, H' b = some o ∧ LD o) → Qv d → Q (.ref a) H') ∧ ExOut C W F H σ Ev
def cA (C : Ctx) (W : WX) (w : WA) : TA := fun σ H Q => ∃ F ρ Qv Ev, RelS C F H ρ σ ∧ w ρ Qv Ev ∧ (∀ vs ds F' H', Ext C F H F' H' → Ds C H' F' vs ds → Qv ds → Q vs H') ∧ ExOut C W F H σ Ev
def cT (C : Ctx) (W : WX) (w : WT) : TT := fun σ H Q => ∃ F ρ Qv Ev, RelS C F H ρ σ ∧ w ρ Qv Ev ∧ (∀ b F' H', Ext C F H F' H' → Qv b → Q b H') ∧ ExOut C W F H σ Ev

theorem _root_.L2.PE.imp {X : Cx} {e : Expr} {t t' : TE} (h : PE X e t) (i : ∀ σ H Q, t' σ H Q → t σ H Q) : PE X e t' := ⟨fun pins s σ H Q I q => h.run pins s σ H Q I (i σ H Q q)⟩
theorem _root_.L2.PT.imp {X : Cx} {e : Expr} {t t' : TT} (h : PT X e t) (i : ∀ σ H Q, t' σ H Q → t σ H Q) : PT X e t' := ⟨fun pins s σ H Q I q => h.run pins s σ H Q I (i σ H Q q)⟩
theorem _root_.L2.PW.imp {X : Cx} {e : Expr} {t t' : TT} (h : PW X e t) (i : ∀ σ H Q, t' σ H Q → t σ H Q) : PW X e t' := ⟨fun wh pins s σ H Q I q => h.run wh pins s σ H Q I (i σ H Q q)⟩
theorem _root_.L2.PA.imp {X : Cx} {es : List Expr} {t t' : TA} (h : PA X es t) (i : ∀ σ H Q, t' σ H Q → t σ H Q) : PA X es t' := ⟨fun p pins s σ H Q I q => h.run p pins s σ H Q I (i σ H Q q)⟩
theorem _root_.L2.PS.imp {X : Cx} {e : Stmt} {t t' : TS} (h : PS X e t) (i : ∀ D σ H, t' D σ H → t D σ H) : PS X e t' := ⟨fun pins s σ H D I q => h.run pins s σ H D I (i D σ H q)⟩
theorem _root_.L2.PSs.imp {X : Cx} {e : List Stmt} {t t' : TS} (h : PSs X e t) (i : ∀ D σ H, t' D σ H → t D σ H) : PSs X e t' := ⟨fun pins s σ H D I q => h.run pins s σ H D I (i D σ H q)⟩

section
variable {X : Cx} {C : Ctx} {W : WX} {hs : SrcStays C} {a b e : Expr} {wa wb : WE} {es : List Expr} {ws : WA} {pos : Pos}

/-- a value that is known whatever the state -/
theorem ve_const {d : T} {v : V} (h : PE X e (tC v)) (r : ∀ H F, D C H F v d) : PE X e (cE C W fun _ Q _ => Q d) :=
  h.imp fun σ H Q ⟨F, ρ, Qv, Ev, _, q, k, _⟩ => k v d F H .refl (r H F) q
theorem ve_var {i : Nat} (h : PE X e (tVar i)) : PE X e (cE C W fun ρ Q _ => ∃ d, ρ[i]? = some (.sh d) ∧ Q d) :=
  h.imp fun σ H Q ⟨F, ρ, Qv, Ev, r, ⟨d, hd, q⟩, k, _⟩ => by
    obtain ⟨v, e, h⟩ := r.sh hd
    exact ⟨v, e, k v d F H .refl h q⟩

/-- an operation on values, by trees -/
def OpD (C : Ctx) (r : R2) (w : T → T → (T → Prop) → Prop) : Prop :=
  ∀ (F : Addr → Prop) (H : Hp) (x y : V) (d d' : T) (Qv : T → Prop) (Q : VK), D C H F x d → D C H F y d' → w d d' Qv → (∀ v d F' H', Ext C F H F' H' → D C H' F' v d → Qv d → Q v H') → r x y H Q
theorem tOp_c {r : R2} {w : T → T → (T → Prop) → Prop} (hs : SrcStays C) (ho : OpD C r w) {σ : L2.St} {H : Hp} {Q : VK} (h : cE C W (fun ρ Q E => wa ρ (fun d => wb ρ (fun d' => w d d' Q) E) E) σ H Q) : tOp r (cE C W wa) (cE C W wb) σ H Q := by
  obtain ⟨F, ρ, Qv, Ev, rel, q, k, ex⟩ := h
  refine ⟨F, ρ, _, Ev, rel, q, fun v d F1 H1 x1 hd q1 => ?_, ex⟩
  refine ⟨F1, ρ, _, Ev, rel.ext hs x1, q1, fun v2 d2 F2 H2 x2 hd2 q2 => ?_, ex.ext x1⟩
  exact ho F2 H2 v v2 d d2 Qv Q (hd.later hs x2.later) hd2 q2 fun v3 d3 F3 H3 x3 hd3 q3 => k v3 d3 F3 H3 (x1.trans (x2.trans x3)) hd3 q3
theorem ve_bin {op : Operator} {r : R2} {w : T → T → (T → Prop) → Prop} (hs : SrcStays C) (hr : OpR X (binaryOp op) r) (ho : OpD C r w) (ha : PE X a (cE C W wa)) (hb : PE X b (cE C W wb)) :
    PE X (.BinOp a op b pos) (cE C W fun ρ Q E => wa ρ (fun d => wb ρ (fun d' => w d d' Q) E) E) :=
  (pe_op hr ha hb).imp fun _ _ _ h => tOp_c hs ho h
theorem ve_cmp {op : CmpOp} {r : R2} {w : T → T → (T → Prop) → Prop} (hs : SrcStays C) (hr : OpR X (compareOp op) r) (ho : OpD C r w) (ha : PE X a (cE C W wa)) (hb : PE X b (cE C W wb)) (hm : behindInMarks op b = false) :
    PE X (.Compare a [op] [b] pos) (cE C W fun ρ Q E => wa ρ (fun d => wb ρ (fun d' => w d d' Q) E) E) :=
  (pe_cmpR hr ha hb hm).imp fun _ _ _ h => tOp_c hs ho h
theorem ve_ix {r : R2} {w : T → T → (T → Prop) → Prop} (hs : SrcStays C) (hr : IxR X r) (ho : OpD C r w) (ha : PE X a (cE C W wa)) (hb : PE X b (cE C W wb)) (hx : PlainIx b) :
    PE X (.Subscript a b pos) (cE C W fun ρ Q E => wa ρ (fun d => wb ρ (fun d' => w d d' Q) E) E) :=
  (pe_ix hr ha hb hx).imp fun _ _ _ h => tOp_c hs ho h
def UnD (C : Ctx) (r : V → Hp → VK → Prop) (w : T → (T → Prop) → Prop) : Prop :=
  ∀ (F : Addr → Prop) (H : Hp) (x : V) (d : T) (Qv : T → Prop) (Q : VK), D C H F x d → w d Qv → (∀ v d F' H', Ext C F H F' H' → D C H' F' v d → Qv d → Q v H') → r x H Q
theorem ve_un {op : UnaryOp} {r : V → Hp → VK → Prop} {w : T → (T → Prop) → Prop} (hr : UnR X (unaryOp op) r) (ho : UnD C r w) (ha : PE X a (cE C W wa)) :
    PE X (.UnaryOp op a pos) (cE C W fun ρ Q E => wa ρ (fun d => w d Q) E) :=
  (pe_un hr ha).imp fun σ H Q ⟨F, ρ, Qv, Ev, rel, q, k, ex⟩ => ⟨F, ρ, _, Ev, rel, q, fun v d F1 H1 x1 hd q1 => ho F1 H1 v d Qv Q hd q1 fun v2 d2 F2 H2 x2 hd2 q2 => k v2 d2 F2 H2 (x1.trans x2) hd2 q2, ex⟩

/-! ### argument lists, displays -/
theorem va_nil : PA X [] (cA C W fun _ Q _ => Q []) := pa_nil.imp fun σ H Q ⟨F, ρ, Qv, Ev, rel, q, k, ex⟩ => k [] [] F H .refl .nil q
theorem va_cons (hs : SrcStays C) (ha : PE X e (cE C W wa)) (hr : PA X es (cA C W ws)) (h1 : starEach (e :: es) X.env = (false, eval e X.env) :: starEach es X.env) :
    PA X (e :: es) (cA C W fun ρ Q E => wa ρ (fun d => ws ρ (fun ds => Q (d :: ds)) E) E) :=
  (pa_cons ha hr h1).imp fun σ H Q ⟨F, ρ, Qv, Ev, rel, q, k, ex⟩ => ⟨F, ρ, _, Ev, rel, q, fun v d F1 H1 x1 hd q1 =>
    ⟨F1, ρ, _, Ev, rel.ext hs x1, q1, fun vs ds F2 H2 x2 hds q2 => k _ _ F2 H2 (x1.trans x2) (.cons (hd.later hs x2.later) hds) q2, ex.ext x1⟩, ex⟩
theorem Ext.new_tup {F : Addr → Prop} {H : Hp} {p : Addr} {o : HO} (h : H p = none) : Ext C F H F (upd H p o) := .of (fun b u e => by rw [upd_ne (ne_of_none e h)]; exact e) (fun _ z => z) fun _ z => .inl z
theorem Ext.new_fz {F : Addr → Prop} {H : Hp} {p : Addr} {o : HO} (h : H p = none) : Ext C F H (fun b => F b ∨ b = p) (upd H p o) :=
  .of (fun b u e => by rw [upd_ne (ne_of_none e h)]; exact e) (fun _ z => .inl z) fun b z => z.imp id fun e => by rw [e]; exact ⟨h, o, upd_same⟩
theorem later_tup {F : Addr → Prop} {H : Hp} {p : Addr} {o : HO} (h : H p = none) : Later F H F (upd H p o) := ⟨fun b u _ _ e => by rw [upd_ne (ne_of_none e h)]; exact e, fun b u _ _ e => by rw [upd_ne (ne_of_none e h)]; exact e, fun _ z => z⟩
theorem later_fz {F : Addr → Prop} {H : Hp} {p : Addr} {o : HO} (h : H p = none) : Later F H (fun b => F b ∨ b = p) (upd H p o) := ⟨fun b u _ _ e => by rw [upd_ne (ne_of_none e h)]; exact e, fun b u _ _ e => by rw [upd_ne (ne_of_none e h)]; exact e, fun _ z => .inl z⟩
theorem ve_tup {k : Nat} (hs : SrcStays C) (h : PA X es (cA C W ws)) : PE X (.Tuple es k pos) (cE C W fun ρ Q E => ws ρ (fun ds => ds.length ≤ sizeLine ∧ Q (.tup ds)) E) :=
  (pe_tup h).imp fun σ H Q ⟨F, ρ, Qv, Ev, rel, q, k, ex⟩ => ⟨F, ρ, _, Ev, rel, q, fun vs ds F1 H1 x1 hds q1 =>
    ⟨by rw [hds.length]; exact q1.1, fun p hp => k _ _ F1 _ (x1.trans (.new_tup hp)) (.tup (.of upd_same) (hds.later hs (later_tup hp))) q1.2⟩, ex⟩
theorem ve_lst (hs : SrcStays C) (h : PA X es (cA C W ws)) : PE X (.List es pos) (cE C W fun ρ Q E => ws ρ (fun ds => ds.length ≤ sizeLine ∧ Q (.lst ds)) E) :=
  (pe_lst h).imp fun σ H Q ⟨F, ρ, Qv, Ev, rel, q, k, ex⟩ => ⟨F, ρ, _, Ev, rel, q, fun vs ds F1 H1 x1 hds q1 =>
    ⟨by rw [hds.length]; exact q1.1, fun p hp => k _ _ _ _ (x1.trans (.new_fz hp)) (.lst upd_same (.inr rfl) (hds.later hs (later_fz hp))) q1.2⟩, ex⟩
/-- a new list, as the frame's own -/
theorem own_new {F : Addr → Prop} {H : Hp} {p : Addr} {xs : List V} {ds : List T} (hs : SrcStays C) (hp : H p = none) (hf : ¬ F p) (h : Ds C H F xs ds) : OwnAt C (upd H p (.lst xs)) F 1 p (.lst ds) :=
  ⟨hf, .inl ⟨xs, ds, rfl, upd_same, h.later hs (later_tup hp)⟩⟩
end
end L3

/-! L3c: operations on trees. -/
namespace L3
open PySem PySem.Spec PyProof.Rows L2

/-! ### trees as plain data -/
mutual
def toPy : T → PyData
  | .non => .none
  | .bl b => .bool b
  | .int i => .int i
  | .str x => .str x
  | .lst xs => .list (toPys xs)
  | .tup xs => .tuple (toPys xs)
  | .dct _ => .none
  | .fn _ => .none
  | .src _ _ => .none
  | .ex _ => .none
def toPys : List T → List PyData
  | [] => []
  | x :: xs => toPy x :: toPys xs
end
theorem toPys_map : ∀ xs : List T, toPys xs = xs.map toPy
  | [] => rfl
  | x :: xs => by rw [toPys, List.map_cons, toPys_map xs]
/-- plain data at most n deep -/
def okD : Nat → T → Bool
  | _, .non => true
  | _, .bl _ => true
  | _, .int _ => true
  | _, .str x => PyData.strOk x
  | n + 1, .lst xs => xs.all (okD n)
  | n + 1, .tup xs => xs.all (okD n)
  | _, _ => false
theorem okD_mono : ∀ {n m : Nat} {d : T}, okD n d = true → n ≤ m → okD m d = true
  | _, _, .non, _, _ => by simp [okD]
  | _, _, .bl _, _, _ => by simp [okD]
  | _, _, .int _, _, _ => by simp [okD]
  | n, m, .str x, h, _ => by
    have : PyData.strOk x = true := by cases n <;> exact h
    cases m <;> exact this
  | 0, _, .lst xs, h, _ => by simp [okD] at h
  | n + 1, 0, .lst xs, _, h => by omega
  | n + 1, m + 1, .lst xs, h, hm => by
    have h' : ∀ x ∈ xs, okD n x = true := List.all_eq_true.mp h
    exact List.all_eq_true.mpr fun x hx => okD_mono (h' x hx) (by omega)
  | 0, _, .tup xs, h, _ => by simp [okD] at h
  | n + 1, 0, .tup xs, _, h => by omega
  | n + 1, m + 1, .tup xs, h, hm => by
    have h' : ∀ x ∈ xs, okD n x = true := List.all_eq_true.mp h
    exact List.all_eq_true.mpr fun x hx => okD_mono (h' x hx) (by omega)
  | n, _, .dct _, h, _ => by cases n <;> simp [okD] at h
  | n, _, .fn _, h, _ => by cases n <;> simp [okD] at h
  | n, _, .src _ _, h, _ => by cases n <;> simp [okD] at h
  | n, _, .ex _, h, _ => by cases n <;> simp [okD] at h
theorem canLay_all : ∀ {ds : List PyData}, (∀ d ∈ ds, d.canLay0 = true) → PyData.canLayAll0 ds = true
  | [], _ => rfl
  | d :: ds, h => by
    simp only [PyData.canLayAll0, Bool.and_eq_true]
    exact ⟨h d List.mem_cons_self, canLay_all fun e he => h e (List.mem_cons_of_mem _ he)⟩
theorem depth_all {n : Nat} : ∀ {ds : List PyData}, (∀ d ∈ ds, d.depth ≤ n) → PyData.depthAll ds ≤ n
  | [], _ => Nat.zero_le _
  | d :: ds, h => by
    simp only [PyData.depthAll]
    exact Nat.max_le.mpr ⟨h d List.mem_cons_self, depth_all fun e he => h e (List.mem_cons_of_mem _ he)⟩
theorem okD_lay : ∀ {n : Nat} {d : T}, okD n d = true → (toPy d).canLay0 = true ∧ (toPy d).depth ≤ n
  | _, .non, _ => ⟨rfl, Nat.zero_le _⟩
  | _, .bl _, _ => ⟨rfl, Nat.zero_le _⟩
  | _, .int _, _ => ⟨rfl, Nat.zero_le _⟩
  | n, .str x, h => ⟨by
    have : PyData.strOk x = true := by cases n <;> exact h
    simpa [toPy, PyData.canLay0] using this, Nat.zero_le _⟩
  | 0, .lst xs, h => by simp [okD] at h
  | n + 1, .lst xs, h => by
    have h' : ∀ x ∈ xs, okD n x = true := List.all_eq_true.mp h
    refine ⟨?_, ?_⟩
    · rw [toPy, toPys_map]
      exact canLay_all fun d hd => by
        obtain ⟨x, hx, rfl⟩ := List.mem_map.mp hd
        exact (okD_lay (h' x hx)).1
    · rw [toPy, toPys_map]
      show PyData.depthAll _ + 1 ≤ n + 1
      exact Nat.succ_le_succ (depth_all fun d hd => by
        obtain ⟨x, hx, rfl⟩ := List.mem_map.mp hd
        exact (okD_lay (h' x hx)).2)
  | 0, .tup xs, h => by simp [okD] at h
  | n + 1, .tup xs, h => by
    have h' : ∀ x ∈ xs, okD n x = true := List.all_eq_true.mp h
    refine ⟨?_, ?_⟩
    · rw [toPy, toPys_map]
      exact canLay_all fun d hd => by
        obtain ⟨x, hx, rfl⟩ := List.mem_map.mp hd
        exact (okD_lay (h' x hx)).1
    · rw [toPy, toPys_map]
      show PyData.depthAll _ + 1 ≤ n + 1
      exact Nat.succ_le_succ (depth_all fun d hd => by
        obtain ⟨x, hx, rfl⟩ := List.mem_map.mp hd
        exact (okD_lay (h' x hx)).2)
  | n, .dct _, h => by cases n <;> simp [okD] at h
  | n, .fn _, h => by cases n <;> simp [okD] at h
  | n, .src _ _, h => by cases n <;> simp [okD] at h
  | n, .ex _, h => by cases n <;> simp [okD] at h
theorem okD_shaped {n : Nat} {d : T} (h : okD n d = true) (hn : n ≤ 64) : SeqAt.shaped (toPy d) = true := by
  obtain ⟨h1, h2⟩ := okD_lay h
  unfold SeqAt.shaped
  rw [h1, Bool.true_and]
  exact decide_eq_true (Nat.le_trans h2 hn)
section
variable {C : Ctx} {F : Addr → Prop} {H : Hp}
theorem dpAll_of {n : Nat} (ih : ∀ d v, okD n d = true → D C H F v d → Dp C.K H v (toPy d)) : ∀ (ds : List T) (vs : List V), (∀ d ∈ ds, okD n d = true) → Ds C H F vs ds → DpAll C.K H vs (ds.map toPy)
  | [], _, _, h => by cases h; exact .nil
  | d :: ds, _, ho, h => by
    cases h with
    | cons h1 h2 => exact .cons (ih d _ (ho d List.mem_cons_self) h1) (dpAll_of ih ds _ (fun e he => ho e (List.mem_cons_of_mem _ he)) h2)
theorem D.dp : ∀ {n : Nat} {d : T} {v : V}, okD n d = true → D C H F v d → Dp C.K H v (toPy d)
  | _, .non, _, _, h => by cases h; exact .non
  | _, .bl b, _, _, h => by cases h; exact .bl b
  | _, .int i, _, _, h => by cases h; exact .int i
  | _, .str x, _, _, h => by cases h; exact .str x
  | 0, .lst xs, _, h, _ => by simp [okD] at h
  | n + 1, .lst xs, v, ho, h => by
    have h' : ∀ x ∈ xs, okD n x = true := List.all_eq_true.mp ho
    rw [toPy, toPys_map]
    obtain ⟨a, rfl⟩ := h.lref
    obtain ⟨ys, h1, h2⟩ := h.sql
    exact .lst h1 (dpAll_of (fun d v q w => D.dp q w) xs ys h' h2)
  | 0, .tup xs, _, h, _ => by simp [okD] at h
  | n + 1, .tup xs, v, ho, h => by
    have h' : ∀ x ∈ xs, okD n x = true := List.all_eq_true.mp ho
    rw [toPy, toPys_map]
    obtain ⟨a, rfl⟩ := h.tref
    obtain ⟨ys, h1, h2⟩ := h.sqt
    exact .tup h1 (dpAll_of (fun d v q w => D.dp q w) xs ys h' h2)
  | n, .dct _, _, h, _ => by cases n <;> simp [okD] at h
  | n, .fn _, _, h, _ => by cases n <;> simp [okD] at h
  | n, .src _ _, _, h, _ => by cases n <;> simp [okD] at h
  | n, .ex _, _, h, _ => by cases n <;> simp [okD] at h
end

/-- == of trees -/
def eqT (a b : T) : Bool := PyData.eqv (toPy a) (toPy b)
def okB (d : T) : Bool := okD 60 d

/-! ### the operations -/
section
variable {C : Ctx} {F : Addr → Prop} {H : Hp}
theorem D.isL {v : V} {ds : List T} (h : D C H F v (.lst ds)) : ∃ a xs, v = .ref a ∧ H a = some (.lst xs) ∧ F a ∧ Ds C H F xs ds := by
  cases h with
  | lst h1 h2 h3 => exact ⟨_, _, rfl, h1, h2, h3⟩
theorem D.isT {v : V} {ds : List T} (h : D C H F v (.tup ds)) : ∃ a xs, v = .ref a ∧ SqT C.K H a xs ∧ Ds C H F xs ds := by
  cases h with
  | tup h1 h2 => exact ⟨_, _, rfl, h1, h2⟩
end

def wAdd (d d' : T) (Q : T → Prop) : Prop :=
  match d, d' with
  | .int i, .int j => Q (.int (i + j))
  | .str x, .str y => x.length + y.length ≤ sizeLine ∧ Q (.str (x ++ y))
  | .lst xs, .lst ys => xs.length + ys.length ≤ sizeLine ∧ Q (.lst (xs ++ ys))
  | .tup xs, .tup ys => xs.length + ys.length ≤ sizeLine ∧ Q (.tup (xs ++ ys))
  | _, _ => False
abbrev rAddI : R2 := rI0 fun i j => .int (i + j)
abbrev rAddS : R2 := fun x y H Q => ∃ i j, x = .str i ∧ y = .str j ∧ i.length + j.length ≤ sizeLine ∧ Q (.str (i ++ j)) H
abbrev rAddA (K : PySem.W.Frag) : R2 := fun x y H Q => rAddI x y H Q ∨ (rAddS x y H Q ∨ (rCat x y H Q ∨ rCatA K x y H Q))
theorem or_add {X : Cx} : OpR X (binaryOp .Add) (rAddA X.K) := op_add.or (op_add_str.or (op_cat.or op_catA))
theorem od_add {C : Ctx} (hs : SrcStays C) : OpD C (rAddA C.K) wAdd := by
  intro F H x y d d' Qv Q hd hd' hw k
  unfold wAdd at hw
  split at hw
  · rw [hd.int_eq, hd'.int_eq]
    exact .inl ⟨_, _, rfl, rfl, k _ _ F H .refl (.int _) hw⟩
  · rw [hd.str_eq, hd'.str_eq]
    exact .inr (.inl ⟨_, _, rfl, rfl, hw.1, k _ _ F H .refl (.str _) hw.2⟩)
  · obtain ⟨a, xs, rfl, ha, fa, hx⟩ := hd.isL
    obtain ⟨b, ys, rfl, hb, fb, hy⟩ := hd'.isL
    refine .inr (.inr (.inl ⟨a, b, xs, ys, rfl, rfl, ha, hb, by rw [hx.length, hy.length]; exact hw.1, fun p hp => ?_⟩))
    exact k _ _ _ _ (.new_fz hp) (.lst upd_same (.inr rfl) ((hx.append hy).later hs (later_fz hp))) hw.2
  · obtain ⟨a, xs, rfl, ha, hx⟩ := hd.isT
    obtain ⟨b, ys, rfl, hb, hy⟩ := hd'.isT
    refine .inr (.inr (.inr ⟨a, b, xs, ys, rfl, rfl, ha, hb, by rw [hx.length, hy.length]; exact hw.1, fun e => ?_, fun _ e => ?_, fun _ _ p hp => ?_⟩))
    · subst e
      cases hx
      exact k _ _ F H .refl hd' hw.2
    · subst e
      cases hy
      exact k _ _ F H .refl hd (by rw [List.append_nil] at hw; exact hw.2)
    · exact k _ _ _ _ (.new_tup hp) (.tup (.of upd_same) ((hx.append hy).later hs (later_tup hp))) hw.2
  · exact hw.elim

def wSub (d d' : T) (Q : T → Prop) : Prop :=
  match d, d' with
  | .int i, .int j => Q (.int (i - j))
  | _, _ => False
theorem od_sub {C : Ctx} : OpD C (rI0 fun i j => .int (i - j)) wSub := by
  intro F H x y d d' Qv Q hd hd' hw k
  unfold wSub at hw
  split at hw
  · rw [hd.int_eq, hd'.int_eq]
    exact ⟨_, _, rfl, rfl, k _ _ F H .refl (.int _) hw⟩
  · exact hw.elim
/-- n times a list's items -/
def timesT (n : Int) (xs : List T) : List T := (List.replicate n.toNat xs).flatten
def wMul (d d' : T) (Q : T → Prop) : Prop :=
  match d, d' with
  | .int i, .int j => CMulW i j ∧ Q (.int (i * j))
  | .lst xs, .int k => (-(2 ^ 63) ≤ k ∧ k < 2 ^ 63 ∧ xs.length * k.toNat ≤ sizeLine) ∧ Q (.lst (timesT k xs))
  | _, _ => False
abbrev rMulA : R2 := fun x y H Q => rI CMulW (fun i j => .int (i * j)) x y H Q ∨ rRep x y H Q
theorem or_mul {X : Cx} : OpR X (binaryOp .Mult) rMulA := op_mulW.or op_rep
theorem Ds.rep {C : Ctx} {F : Addr → Prop} {H : Hp} {xs : List V} {ds : List T} (h : Ds C H F xs ds) : ∀ n : Nat, Ds C H F (List.replicate n xs).flatten (List.replicate n ds).flatten
  | 0 => .nil
  | n + 1 => by
    rw [List.replicate_succ, List.replicate_succ, List.flatten_cons, List.flatten_cons]
    exact h.append (h.rep n)
theorem od_mul {C : Ctx} (hs : SrcStays C) : OpD C rMulA wMul := by
  intro F H x y d d' Qv Q hd hd' hw k
  unfold wMul at hw
  split at hw
  · rw [hd.int_eq, hd'.int_eq]
    exact .inl ⟨_, _, rfl, rfl, hw.1, k _ _ F H .refl (.int _) hw.2⟩
  · obtain ⟨a, xs, rfl, ha, fa, hx⟩ := hd.isL
    rw [hd'.int_eq]
    refine .inr ⟨a, _, xs, rfl, rfl, ha, hw.1.1, hw.1.2.1, by rw [hx.length]; exact hw.1.2.2, fun p hp => ?_⟩
    exact k _ _ _ _ (.new_fz hp) (.lst upd_same (.inr rfl) ((hx.rep _).later hs (later_fz hp))) hw.2
  · exact hw.elim
def wFdv (d d' : T) (Q : T → Prop) : Prop :=
  match d, d' with
  | .int i, .int j => CDivW i j ∧ Q (.int (i / j))
  | _, _ => False
theorem od_fdv {C : Ctx} : OpD C (rI CDivW fun i j => .int (i / j)) wFdv := by
  intro F H x y d d' Qv Q hd hd' hw k
  unfold wFdv at hw
  split at hw
  · rw [hd.int_eq, hd'.int_eq]
    exact ⟨_, _, rfl, rfl, hw.1, k _ _ F H .refl (.int _) hw.2⟩
  · exact hw.elim
def wMod (d d' : T) (Q : T → Prop) : Prop :=
  match d, d' with
  | .int i, .int j => 0 < j ∧ Q (.int (i % j))
  | _, _ => False
theorem od_mod {C : Ctx} : OpD C (rI (fun _ j => 0 < j) fun i j => .int (i % j)) wMod := by
  intro F H x y d d' Qv Q hd hd' hw k
  unfold wMod at hw
  split at hw
  · rw [hd.int_eq, hd'.int_eq]
    exact ⟨_, _, rfl, rfl, hw.1, k _ _ F H .refl (.int _) hw.2⟩
  · exact hw.elim
def wPow (d d' : T) (Q : T → Prop) : Prop :=
  match d, d' with
  | .int i, .int j => CPow i j ∧ Q (.int (i ^ j.toNat))
  | _, _ => False
theorem od_pow {C : Ctx} : OpD C (rI CPow fun i j => .int (i ^ j.toNat)) wPow := by
  intro F H x y d d' Qv Q hd hd' hw k
  unfold wPow at hw
  split at hw
  · rw [hd.int_eq, hd'.int_eq]
    exact ⟨_, _, rfl, rfl, hw.1, k _ _ F H .refl (.int _) hw.2⟩
  · exact hw.elim
def wNeg (d : T) (Q : T → Prop) : Prop :=
  match d with
  | .int i => Q (.int (-i))
  | _ => False
theorem ud_neg {C : Ctx} : UnD C (rU fun i => .int (-i)) wNeg := by
  intro F H x d Qv Q hd hw k
  unfold wNeg at hw
  split at hw
  · rw [hd.int_eq]
    exact ⟨_, rfl, k _ _ F H .refl (.int _) hw⟩
  · exact hw.elim

/-! ### comparisons -/
def wCmp (f : Int → Int → Bool) (d d' : T) (Q : T → Prop) : Prop :=
  match d, d' with
  | .int i, .int j => Q (.bl (f i j))
  | _, _ => False
theorem od_cmp {C : Ctx} {f : Int → Int → Bool} : OpD C (rI0 fun i j => .bl (f i j)) (wCmp f) := by
  intro F H x y d d' Qv Q hd hd' hw k
  unfold wCmp at hw
  split at hw
  · rw [hd.int_eq, hd'.int_eq]
    exact ⟨_, _, rfl, rfl, k _ _ F H .refl (.bl _) hw⟩
  · exact hw.elim
/-- two texts, or plain data that is not deep -/
def okE : T → T → Bool
  | .str _, .str _ => true
  | d, d' => okB d && okB d'
def wEq (neg : Bool) (d d' : T) (Q : T → Prop) : Prop := okE d d' = true ∧ Q (.bl (eqT d d' != neg))
theorem okE_cases {d d' : T} (h : okE d d' = true) : (∃ x y, d = .str x ∧ d' = .str y) ∨ (okB d = true ∧ okB d' = true) := by
  unfold okE at h
  split at h
  · exact .inl ⟨_, _, rfl, rfl⟩
  · rw [Bool.and_eq_true] at h
    exact .inr h
theorem okE_of {d d' : T} (h : okB d = true) (h' : okB d' = true) : okE d d' = true := by
  unfold okE
  split
  · rfl
  · rw [h, h']; rfl
theorem eqT_str {x y : Str} : eqT (.str x) (.str y) = decide (x = y) := by
  unfold eqT
  simp only [toPy, PyData.eqv]
  by_cases h : x = y <;> simp [h]
def rEqA (K : PySem.W.Frag) : R2 := fun x y H Q => rEqD K x y H Q ∨ rEq x y H Q
def rNeA (K : PySem.W.Frag) : R2 := fun x y H Q => rNeD K x y H Q ∨ rNe x y H Q
theorem od_eq {C : Ctx} : OpD C (rEqA C.K) (wEq false) := by
  intro F H x y d d' Qv Q hd hd' hw k
  obtain ⟨h, q⟩ := hw
  rcases okE_cases h with ⟨a, b, rfl, rfl⟩ | ⟨h1, h2⟩
  · rw [hd.str_eq, hd'.str_eq]
    refine .inr ⟨by trivial, k _ _ F H .refl (.bl _) ?_⟩
    rw [eqT_str] at q
    simpa using q
  · refine .inl ⟨toPy d, toPy d', hd.dp h1, hd'.dp h2, okD_shaped h1 (by decide), okD_shaped h2 (by decide), k _ _ F H .refl (.bl _) ?_⟩
    simpa [eqT] using q
theorem od_ne {C : Ctx} : OpD C (rNeA C.K) (wEq true) := by
  intro F H x y d d' Qv Q hd hd' hw k
  obtain ⟨h, q⟩ := hw
  rcases okE_cases h with ⟨a, b, rfl, rfl⟩ | ⟨h1, h2⟩
  · rw [hd.str_eq, hd'.str_eq]
    refine .inr ⟨by trivial, k _ _ F H .refl (.bl _) ?_⟩
    rw [eqT_str] at q
    simpa using q
  · refine .inl ⟨toPy d, toPy d', hd.dp h1, hd'.dp h2, okD_shaped h1 (by decide), okD_shaped h2 (by decide), k _ _ F H .refl (.bl _) ?_⟩
    simpa [eqT] using q
/-- whether one of a list's items equals d -/
def inT (d : T) (xs : List T) : Bool := xs.any fun z => eqT z d
def wIn (neg : Bool) (d d' : T) (Q : T → Prop) : Prop :=
  match d' with
  | .lst xs => okB d = true ∧ okB d' = true ∧ Q (.bl (inT d xs != neg))
  | .tup xs => okB d = true ∧ okB d' = true ∧ Q (.bl (inT d xs != neg))
  | _ => False
theorem inT_py (d : T) (xs : List T) : ((toPys xs).any fun z => PyData.eqv z (toPy d)) = inT d xs := by
  rw [toPys_map, List.any_map]
  rfl
def rInT (K : PySem.W.Frag) (neg : Bool) : R2 := fun x y H Q => ∃ d ds, Dp K H x d ∧ Dp K H y (.tuple ds) ∧ SeqAt.shaped d = true ∧ SeqAt.shaped (.tuple ds) = true ∧ Q (.bl ((ds.any fun z => PyData.eqv z d) != neg)) H
theorem op_inT {X : Cx} (hu : X.A.units + 65 < cLine) : OpR X (compareOp .In) (rInT X.K false) := by
  intro pins s σ H x y v u Q I rx ry h
  obtain ⟨d, ds, hd, he, sd, se, q⟩ := h
  obtain ⟨as, r1⟩ := Dp.reads I d x v hd rx
  obtain ⟨bs, r2⟩ := Dp.reads I (.tuple ds) y u he ry
  exact SeqAt.in_tuple_reads r2 r1 (SeqAt.canLay_of_shaped se) (SeqAt.canLay_of_shaped sd) (room_in_shaped sd hu) ⟨.bl _, H, I, rfl, by simpa using q⟩
theorem op_notInT {X : Cx} (hu : X.A.units + 65 < cLine) : OpR X (compareOp .NotIn) (rInT X.K true) := by
  intro pins s σ H x y v u Q I rx ry h
  obtain ⟨d, ds, hd, he, sd, se, q⟩ := h
  obtain ⟨as, r1⟩ := Dp.reads I d x v hd rx
  obtain ⟨bs, r2⟩ := Dp.reads I (.tuple ds) y u he ry
  exact SeqAt.notIn_tuple_reads r2 r1 (SeqAt.canLay_of_shaped se) (SeqAt.canLay_of_shaped sd) (room_in_shaped sd hu) ⟨.bl _, H, I, rfl, by simpa using q⟩
theorem od_in {C : Ctx} : OpD C (fun x y H Q => rInD C.K x y H Q ∨ rInT C.K false x y H Q) (wIn false) := by
  intro F H x y d d' Qv Q hd hd' hw k
  unfold wIn at hw
  split at hw
  · rename_i xs
    obtain ⟨h1, h2, q⟩ := hw
    have e := hd'.dp h2
    rw [toPy] at e
    have s2 := okD_shaped h2 (by decide)
    rw [toPy] at s2
    refine .inl ⟨toPy d, toPys xs, hd.dp h1, e, okD_shaped h1 (by decide), s2, k _ _ F H .refl (.bl _) ?_⟩
    rw [inT_py]
    simpa using q
  · rename_i xs
    obtain ⟨h1, h2, q⟩ := hw
    have e := hd'.dp h2
    rw [toPy] at e
    have s2 := okD_shaped h2 (by decide)
    rw [toPy] at s2
    refine .inr ⟨toPy d, toPys xs, hd.dp h1, e, okD_shaped h1 (by decide), s2, k _ _ F H .refl (.bl _) ?_⟩
    rw [inT_py]
    simpa using q
  · exact hw.elim
theorem od_notIn {C : Ctx} : OpD C (fun x y H Q => rNotInD C.K x y H Q ∨ rInT C.K true x y H Q) (wIn true) := by
  intro F H x y d d' Qv Q hd hd' hw k
  unfold wIn at hw
  split at hw
  · rename_i xs
    obtain ⟨h1, h2, q⟩ := hw
    have e := hd'.dp h2
    rw [toPy] at e
    have s2 := okD_shaped h2 (by decide)
    rw [toPy] at s2
    refine .inl ⟨toPy d, toPys xs, hd.dp h1, e, okD_shaped h1 (by decide), s2, k _ _ F H .refl (.bl _) ?_⟩
    rw [inT_py]
    simpa using q
  · rename_i xs
    obtain ⟨h1, h2, q⟩ := hw
    have e := hd'.dp h2
    rw [toPy] at e
    have s2 := okD_shaped h2 (by decide)
    rw [toPy] at s2
    refine .inr ⟨toPy d, toPys xs, hd.dp h1, e, okD_shaped h1 (by decide), s2, k _ _ F H .refl (.bl _) ?_⟩
    rw [inT_py]
    simpa using q
  · exact hw.elim

/-! ### subscripts, slices -/
def wIx (d d' : T) (Q : T → Prop) : Prop :=
  match d, d' with
  | .lst xs, .int i => ∃ x, atI xs i = some x ∧ Q x
  | .tup xs, .int i => ∃ x, atI xs i = some x ∧ Q x
  | .str z, .int i => ∃ c, z.length ≤ sizeLine ∧ atI z.cps.toList i = some c ∧ Q (.str ⟨#[c]⟩)
  | _, _ => False
theorem Ds.atI {C : Ctx} {F : Addr → Prop} {H : Hp} {xs : List V} {ds : List T} {i : Int} {d : T} (h : Ds C H F xs ds) (e : L2.atI ds i = some d) : ∃ v, L2.atI xs i = some v ∧ D C H F v d := by
  unfold L2.atI at *
  rw [h.length]
  cases q : ixN ds.length i with
  | none => rw [q] at e; cases e
  | some j =>
    rw [q] at e
    exact h.get e
theorem od_ix {C : Ctx} : OpD C (rIx C.K) wIx := by
  intro F H x y d d' Qv Q hd hd' hw k
  unfold wIx at hw
  split at hw
  · obtain ⟨e, he, q⟩ := hw
    obtain ⟨a, xs, rfl, ha, fa, hx⟩ := hd.isL
    obtain ⟨v, hv, dv⟩ := hx.atI he
    rw [hd'.int_eq]
    exact .inl ⟨a, xs, _, v, rfl, rfl, .of ha, hv, k _ _ F H .refl dv q⟩
  · obtain ⟨e, he, q⟩ := hw
    obtain ⟨a, xs, rfl, ha, hx⟩ := hd.isT
    obtain ⟨v, hv, dv⟩ := hx.atI he
    rw [hd'.int_eq]
    exact .inr (.inl ⟨a, xs, _, v, rfl, rfl, ha, hv, k _ _ F H .refl dv q⟩)
  · obtain ⟨c, hz, he, q⟩ := hw
    rw [hd.str_eq, hd'.int_eq]
    exact .inr (.inr ⟨_, _, c, rfl, rfl, hz, he, k _ _ F H .refl (.str _) q⟩)
  · exact hw.elim
/-- the items of xs[lo:hi] -/
def cutT (xs : List T) (lo hi : Option Int) : List T := (xs.drop (HT.sIx xs.length 0 lo)).take (HT.sIx xs.length xs.length hi - HT.sIx xs.length 0 lo)
theorem Ds.cut {C : Ctx} {F : Addr → Prop} {H : Hp} {xs : List V} {ds : List T} (h : Ds C H F xs ds) (lo hi : Option Int) : Ds C H F (cutV xs lo hi) (cutT ds lo hi) := by
  unfold cutV cutT
  rw [h.length]
  exact (h.drop _).take _
theorem cutT_whole {xs : List T} {lo hi : Option Int} (h : HT.sIx xs.length 0 lo = 0 ∧ HT.sIx xs.length xs.length hi = xs.length) : cutT xs lo hi = xs := by
  unfold cutT
  rw [h.1, h.2, List.drop_zero, Nat.sub_zero, List.take_length]
def wSl (d : T) (lo hi : Option Int) (Q : T → Prop) : Prop :=
  match d with
  | .lst xs => Q (.lst (cutT xs lo hi))
  | .tup xs => Q (.tup (cutT xs lo hi))
  | .str z => z.length ≤ sizeLine ∧ Q (.str (cutS z lo hi))
  | _ => False
abbrev rSlAll (K : PySem.W.Frag) : V → Option Int → Option Int → Hp → VK → Prop := fun x lo hi H Q => rSlL K x lo hi H Q ∨ (rSlA K x lo hi H Q ∨ rSlS x lo hi H Q)
theorem sl_all {X : Cx} : SlR X (rSlAll X.K) := sl_list.or (sl_tupA.or sl_str)
/-- a part of a slice: left out, or a number -/
abbrev WO := Rho → (Option Int → Prop) → (Ex → Prop) → Prop
def cO (C : Ctx) (W : WX) (w : WO) : TO := fun σ H Q => ∃ F ρ Qv Ev, RelS C F H ρ σ ∧ w ρ Qv Ev ∧ (∀ o F' H', Ext C F H F' H' → Qv o → Q o H') ∧ ExOut C W F H σ Ev
section
variable {X : Cx} {C : Ctx} {W : WX} {e : Expr} {wa : WE} {lo hi : Option Expr} {wl wh : WO} {pos p2 : Pos}
theorem vo_none : PO X none (cO C W fun _ Q _ => Q none) := ⟨fun pins s σ H Q I ⟨F, ρ, Qv, Ev, rel, q, k, _⟩ => po_none.run pins s σ H Q I (k none F H .refl q)⟩
theorem vo_some (h : PE X e (cE C W wa)) : PO X (some e) (cO C W fun ρ Q E => wa ρ (fun d => ∃ i, d = .int i ∧ Q (some i)) E) :=
  ⟨fun pins s σ H Q I ⟨F, ρ, Qv, Ev, rel, q, k, ex⟩ => (po_some h).run pins s σ H Q I ⟨F, ρ, _, Ev, rel, q, fun v d F1 H1 x1 hd ⟨i, e, q1⟩ => by
    subst e
    exact ⟨i, hd.int_eq, k (some i) F1 H1 x1 q1⟩, ex⟩⟩
theorem sl_d (hs : SrcStays C) {F : Addr → Prop} {H : Hp} {x : V} {d : T} {lo hi : Option Int} {Qv : T → Prop} {Q : VK} (hd : D C H F x d) (hw : wSl d lo hi Qv) (k : ∀ v d F' H', Ext C F H F' H' → D C H' F' v d → Qv d → Q v H') : rSlAll C.K x lo hi H Q := by
  unfold wSl at hw
  split at hw
  · obtain ⟨a, xs, rfl, ha, fa, hx⟩ := hd.isL
    exact .inl ⟨a, xs, rfl, .of ha, fun p hp => k _ _ _ _ (.new_fz hp) (.lst upd_same (.inr rfl) ((hx.cut lo hi).later hs (later_fz hp))) hw⟩
  · obtain ⟨a, xs, rfl, ha, hx⟩ := hd.isT
    refine .inr (.inl ⟨a, xs, rfl, ha, fun z => ?_, fun _ p hp => ?_⟩)
    · rw [hx.length] at z
      rw [cutT_whole z] at hw
      exact k _ _ F H .refl hd hw
    · exact k _ _ _ _ (.new_tup hp) (.tup (.of upd_same) ((hx.cut lo hi).later hs (later_tup hp))) hw
  · rw [hd.str_eq]
    exact .inr (.inr ⟨_, rfl, hw.1, k _ _ F H .refl (.str _) hw.2⟩)
  · exact hw.elim
theorem ve_slice (hs : SrcStays C) (hK : X.K = C.K) (he : PE X e (cE C W wa)) (hl : PO X lo (cO C W wl)) (hu : PO X hi (cO C W wh)) :
    PE X (.Subscript e (.Slice lo hi none p2) pos) (cE C W fun ρ Q E => wa ρ (fun d => wl ρ (fun l => wh ρ (fun u => wSl d l u Q) E) E) E) :=
  (pe_slice sl_all he hl hu).imp fun σ H Q ⟨F, ρ, Qv, Ev, rel, q, k, ex⟩ => ⟨F, ρ, _, Ev, rel, q, fun v d F1 H1 x1 hd q1 =>
    ⟨F1, ρ, _, Ev, rel.ext hs x1, q1, fun l F2 H2 x2 q2 => ⟨F2, ρ, _, Ev, rel.ext hs (x1.trans x2), q2, fun u F3 H3 x3 q3 => by
      rw [hK]
      exact sl_d hs (hd.later hs (x2.trans x3).later) q3 fun v2 d2 F4 H4 x4 hd2 q4 => k v2 d2 F4 H4 (((x1.trans x2).trans x3).trans x4) hd2 q4, ex.ext (x1.trans x2)⟩, ex.ext x1⟩, ex⟩
/-- xs[::-1] of a list -/
def wRev (d : T) (Q : T → Prop) : Prop :=
  match d with
  | .lst xs => Q (.lst xs.reverse)
  | _ => False
theorem ve_rev {k : Nat} {p1 p3 : Pos} (hs : SrcStays C) (he : PE X e (cE C W wa)) : PE X (.Subscript e (.Slice none none (some (.UnaryOp .USub (.Constant (.int 1) k p1) p2)) p3) pos) (cE C W fun ρ Q E => wa ρ (fun d => wRev d Q) E) :=
  (pe_revL he).imp fun σ H Q ⟨F, ρ, Qv, Ev, rel, q, k, ex⟩ => ⟨F, ρ, _, Ev, rel, q, fun v d F1 H1 x1 hd q1 => by
    unfold wRev at q1
    split at q1
    · obtain ⟨a, xs, rfl, ha, fa, hx⟩ := hd.isL
      exact ⟨a, xs, rfl, .of ha, fun p hp => k _ _ _ _ (x1.trans (.new_fz hp)) (.lst upd_same (.inr rfl) (hx.reverse.later hs (later_fz hp))) q1⟩
    · exact q1.elim, ex⟩
end
end L3

/-! L3cb: texts of trees (repr, str). -/
namespace L3
open PySem PySem.Spec PyProof.Rows L2

/-- plain data at most n deep, its ints of a text -/
def rpD : Nat → T → Bool
  | _, .non => true
  | _, .bl _ => true
  | _, .int i => decide (i.natAbs.log2 < 1920)
  | _, .str x => PyData.strOk x
  | n + 1, .lst xs => xs.all (rpD n)
  | n + 1, .tup xs => xs.all (rpD n)
  | _, _ => false
mutual
/-- a size -/
def szT : T → Nat
  | .str x => 1 + x.length
  | .lst xs => 1 + szTs xs
  | .tup xs => 1 + szTs xs
  | _ => 1
def szTs : List T → Nat
  | [] => 0
  | x :: xs => szT x + szTs xs
end
/-- the text of a tree -/
def shT (d : T) : Str := (toPy d).shown
def rpOk (d : T) : Prop := rpD 40 d = true ∧ szT d ≤ 8000

theorem shown_all {ds : List PyData} : PyData.shownAll ds = ds.map PyData.shown := by
  induction ds with
  | nil => rfl
  | cons d ds ih => rw [PyData.shownAll, ih]; rfl
theorem showable_all : ∀ {ds : List PyData}, (∀ d ∈ ds, d.showable = true) → PyData.showableAll ds = true
  | [], _ => rfl
  | d :: ds, h => by
    simp only [PyData.showableAll, Bool.and_eq_true]
    exact ⟨h d List.mem_cons_self, showable_all fun e he => h e (List.mem_cons_of_mem _ he)⟩
theorem noDict_all : ∀ {ds : List PyData}, (∀ d ∈ ds, d.hasDict = false) → PyData.hasDictAll ds = false
  | [], _ => rfl
  | d :: ds, h => by
    simp only [PyData.hasDictAll, Bool.or_eq_false_iff]
    exact ⟨h d List.mem_cons_self, noDict_all fun e he => h e (List.mem_cons_of_mem _ he)⟩
theorem textFrom_le : ∀ (ts : List Str) (k : Nat) (acc : Str), (textFrom k acc ts).length ≤ acc.length + piled ts
  | [], k, acc => Nat.le_add_right _ _
  | t :: r, k, acc => by
    have h := textFrom_le r (k + 1) (acc ++ (if k > 0 then ", " else "" : String) ++ t)
    have e : (acc ++ (if k > 0 then ", " else "" : String) ++ t).length ≤ acc.length + 2 + t.length := by
      rw [strLen_append, strLen_append]
      have : ((((if k > 0 then ", " else "" : String)) : Str)).length ≤ 2 := by split <;> decide +kernel
      omega
    rw [piled_cons]
    show (textFrom (k + 1) _ r).length ≤ _
    omega
theorem listText_le (ts : List Str) : (listText ts).length ≤ piled ts + 2 := by
  unfold listText
  rw [strLen_append]
  have h := textFrom_le ts 0 "["
  have e1 : ((("[" : String) : Str)).length = 1 := rfl
  have e2 : ((("]" : String) : Str)).length = 1 := rfl
  omega
theorem piled_sz {n : Nat} (ih : ∀ d, rpD n d = true → (shT d).length + 4 ≤ 2000 * szT d) : ∀ ds : List T, (∀ d ∈ ds, rpD n d = true) → piled ((ds.map toPy).map PyData.shown) ≤ 2000 * szTs ds
  | [], _ => Nat.zero_le _
  | d :: ds, h => by
    have h1 := ih d (h d List.mem_cons_self)
    have h2 := piled_sz ih ds fun e he => h e (List.mem_cons_of_mem _ he)
    rw [List.map_cons, List.map_cons, piled_cons, szTs]
    unfold shT at h1
    omega
theorem shT_len : ∀ {n : Nat} {d : T}, rpD n d = true → (shT d).length + 4 ≤ 2000 * szT d
  | _, .non, _ => by
    have : (shT .non).length = 4 := by decide +kernel
    show (shT .non).length + 4 ≤ 2000 * 1
    omega
  | _, .bl b, _ => by
    have : (shT (.bl b)).length ≤ 5 := by cases b <;> decide +kernel
    show (shT (.bl b)).length + 4 ≤ 2000 * 1
    omega
  | n, .int i, h => by
    have h' : i.natAbs.log2 < 1920 := by cases n <;> exact of_decide_eq_true h
    have := PyProof.Rows.int_text_len_1921 h'
    show (Str.ofString (toString i)).length + 4 ≤ 2000 * 1
    omega
  | n, .str x, h => by
    have h' : PyData.strOk x = true := by cases n <;> exact h
    have := StrLaws.reprText_len x fun c hc => Nat.lt_of_lt_of_le (of_decide_eq_true (Array.all_eq_true_iff_forall_mem.mp h' c (Array.mem_def.mpr hc))) (by decide)
    show (reprText x).length + 4 ≤ 2000 * (1 + x.length)
    omega
  | 0, .lst xs, h => by simp [rpD] at h
  | n + 1, .lst xs, h => by
    have h' : ∀ x ∈ xs, rpD n x = true := List.all_eq_true.mp h
    have q := piled_sz (fun d hd => shT_len hd) xs h'
    have e : shT (.lst xs) = listText ((xs.map toPy).map PyData.shown) := by
      unfold shT
      rw [toPy, toPys_map, PyData.shown, shown_all]
    rw [e, szT]
    have := listText_le ((xs.map toPy).map PyData.shown)
    omega
  | 0, .tup xs, h => by simp [rpD] at h
  | n + 1, .tup xs, h => by
    have h' : ∀ x ∈ xs, rpD n x = true := List.all_eq_true.mp h
    have q := piled_sz (fun d hd => shT_len hd) xs h'
    have e : shT (.tup xs) = tupleText ((xs.map toPy).map PyData.shown) := by
      unfold shT
      rw [toPy, toPys_map, PyData.shown, shown_all]
    rw [e, szT]
    have := fmt_text ((xs.map toPy).map PyData.shown)
    omega
  | n, .dct _, h => by cases n <;> simp [rpD] at h
  | n, .fn _, h => by cases n <;> simp [rpD] at h
  | n, .src _ _, h => by cases n <;> simp [rpD] at h
  | n, .ex _, h => by cases n <;> simp [rpD] at h
theorem rpD_lay : ∀ {n : Nat} {d : T}, rpD n d = true → (toPy d).showable = true ∧ (toPy d).hasDict = false ∧ (toPy d).depth ≤ n
  | _, .non, _ => ⟨rfl, rfl, Nat.zero_le _⟩
  | _, .bl _, _ => ⟨rfl, rfl, Nat.zero_le _⟩
  | n, .int i, h => ⟨by cases n <;> exact h, rfl, Nat.zero_le _⟩
  | n, .str x, h => ⟨rfl, rfl, Nat.zero_le _⟩
  | 0, .lst xs, h => by simp [rpD] at h
  | n + 1, .lst xs, h => by
    have h' : ∀ x ∈ xs, rpD n x = true := List.all_eq_true.mp h
    have q : ∀ d ∈ xs.map toPy, d.showable = true ∧ d.hasDict = false ∧ d.depth ≤ n := fun d hd => by
      obtain ⟨x, hx, rfl⟩ := List.mem_map.mp hd
      exact rpD_lay (h' x hx)
    rw [toPy, toPys_map]
    exact ⟨showable_all fun d hd => (q d hd).1, noDict_all fun d hd => (q d hd).2.1, Nat.succ_le_succ (depth_all fun d hd => (q d hd).2.2)⟩
  | 0, .tup xs, h => by simp [rpD] at h
  | n + 1, .tup xs, h => by
    have h' : ∀ x ∈ xs, rpD n x = true := List.all_eq_true.mp h
    have q : ∀ d ∈ xs.map toPy, d.showable = true ∧ d.hasDict = false ∧ d.depth ≤ n := fun d hd => by
      obtain ⟨x, hx, rfl⟩ := List.mem_map.mp hd
      exact rpD_lay (h' x hx)
    rw [toPy, toPys_map]
    exact ⟨showable_all fun d hd => (q d hd).1, noDict_all fun d hd => (q d hd).2.1, Nat.succ_le_succ (depth_all fun d hd => (q d hd).2.2)⟩
  | n, .dct _, h => by cases n <;> simp [rpD] at h
  | n, .fn _, h => by cases n <;> simp [rpD] at h
  | n, .src _ _, h => by cases n <;> simp [rpD] at h
  | n, .ex _, h => by cases n <;> simp [rpD] at h
section
variable {C : Ctx} {F : Addr → Prop} {H : Hp} {X : Cx} {pins : List (Addr × Obj)} {σ : L2.St} {s : Shared}
theorem reads_all (I : Inv X pins σ H s) {n : Nat} (ih : ∀ d v u, rpD n d = true → D C H F v d → RelV v u → ∃ as, Reads s.heap u (toPy d) as) :
    ∀ (ds : List T) (vs : List V) (us : List Value), (∀ d ∈ ds, rpD n d = true) → Ds C H F vs ds → Vals vs us → ∃ as, ReadsAll s.heap us (ds.map toPy) as
  | [], _, _, _, h, r => by cases h; cases r; exact ⟨_, .nil⟩
  | d :: ds, _, _, ho, h, r => by
    cases h with
    | cons h1 h2 =>
      cases r with
      | cons r1 r2 =>
        obtain ⟨as, x⟩ := ih d _ _ (ho d List.mem_cons_self) h1 r1
        obtain ⟨bs, y⟩ := reads_all I ih ds _ _ (fun e he => ho e (List.mem_cons_of_mem _ he)) h2 r2
        exact ⟨_, .cons x y⟩
theorem D.reads (I : Inv X pins σ H s) (hK : X.K = C.K) : ∀ {n : Nat} {d : T} {v : V} {u : Value}, rpD n d = true → D C H F v d → RelV v u → ∃ as, Reads s.heap u (toPy d) as
  | _, .non, _, _, _, h, r => by cases h; cases r; exact ⟨_, .none⟩
  | _, .bl b, _, _, _, h, r => by cases h; cases r; exact ⟨_, .bool b⟩
  | _, .int i, _, _, _, h, r => by cases h; obtain ⟨t, rfl⟩ := r; exact ⟨_, .int i t⟩
  | _, .str x, _, _, _, h, r => by cases h; obtain ⟨t, rfl⟩ := r; exact ⟨_, .str x t⟩
  | 0, .lst xs, _, _, ho, _, _ => by simp [rpD] at ho
  | n + 1, .lst xs, v, u, ho, h, r => by
    have h' : ∀ x ∈ xs, rpD n x = true := List.all_eq_true.mp ho
    obtain ⟨a, vs, rfl, ha, _, hd⟩ := h.isL
    cases r
    obtain ⟨its, rv, ⟨o, m, e, hc, _, hdt⟩, _⟩ := I.list (.of ha)
    obtain ⟨as, x⟩ := reads_all I (fun d v u a b c => D.reads I hK a b c) xs vs its h' hd rv
    rw [toPy, toPys_map]
    exact ⟨_, .list e hc hdt (by simpa using x)⟩
  | 0, .tup xs, _, _, ho, _, _ => by simp [rpD] at ho
  | n + 1, .tup xs, v, u, ho, h, r => by
    have h' : ∀ x ∈ xs, rpD n x = true := List.all_eq_true.mp ho
    obtain ⟨a, vs, rfl, ha, hd⟩ := h.isT
    cases r
    rw [← hK] at ha
    obtain ⟨its, rv, ⟨o, e, hc, m, hdt⟩, _⟩ := I.tuple ha
    obtain ⟨as, x⟩ := reads_all I (fun d v u a b c => D.reads I hK a b c) xs vs its h' hd rv
    rw [toPy, toPys_map]
    exact ⟨_, .tuple e hc hdt (by simpa using x)⟩
  | n, .dct _, _, _, h, _, _ => by cases n <;> simp [rpD] at h
  | n, .fn _, _, _, h, _, _ => by cases n <;> simp [rpD] at h
  | n, .src _ _, _, _, h, _, _ => by cases n <;> simp [rpD] at h
  | n, .ex _, _, _, h, _, _ => by cases n <;> simp [rpD] at h
/-- the text of what stands there -/
def rRepr (C : Ctx) : List V → Hp → VK → Prop := fun vs H Q => ∃ F v d, vs = [v] ∧ D C H F v d ∧ rpOk d ∧ Q (.str (shT d)) H
theorem call_repr (hK : X.K = C.K) (hgd : X.A.guards = some []) (hu : X.A.units + 64 < cLine) : CallR X (.builtin "repr") (rRepr C) := by
  intro pins s σ H xs us Q I r h
  obtain ⟨F, v, d, rfl, hd, ⟨h1, h2⟩, q⟩ := h
  cases r with
  | cons r rr =>
    cases rr
    rename_i u
    obtain ⟨as, x⟩ := D.reads I hK h1 hd r
    obtain ⟨s1, s2, s3⟩ := rpD_lay h1
    have hl := shT_len h1
    have hsz : (shT d).length ≤ sizeLine := Nat.le_trans (Nat.le_of_lt_succ (by omega : (shT d).length < 2000 * 8000 + 1)) (by decide)
    have leaf : ∀ {tk : Nat}, EP X pins σ Q (.str (shT d) s.toks) { s with toks := s.toks + 1 } := fun {tk} => ⟨.str _, H, I.tok _, ⟨_, rfl⟩, q⟩
    cases hd with
    | non => cases r; exact PySem.P.repr_of_none (leaf (tk := 0))
    | bl b => cases r; exact PySem.P.repr_of_bool (leaf (tk := 0))
    | int i => obtain ⟨t, rfl⟩ := r; exact PySem.P.repr_of_int (of_decide_eq_true s1) (leaf (tk := 0))
    | str y => obtain ⟨t, rfl⟩ := r; exact PySem.P.repr_of_str (leaf (tk := 0)) hsz
    | lst a b c => cases r; exact repr_of_reads' x s1 (fun z => by rw [s2] at z; cases z) hgd (by omega) (fun _ _ e => e) (fun h' u tk k => ⟨.str _, H, I.kept (t' := tk) k, ⟨u, rfl⟩, q⟩) hsz
    | tup a b => cases r; exact repr_of_reads' x s1 (fun z => by rw [s2] at z; cases z) hgd (by omega) (fun _ _ e => e) (fun h' u tk k => ⟨.str _, H, I.kept (t' := tk) k, ⟨u, rfl⟩, q⟩) hsz
    | dctK => simp [rpD] at h1
    | dctT => simp [rpD] at h1
    | fn => simp [rpD] at h1
    | src => simp [rpD] at h1
/-- str(x) -/
def rStr (C : Ctx) : List V → Hp → VK → Prop := fun vs H Q => (∃ x, vs = [.str x] ∧ Q (.str x) H) ∨ ∃ F v d, vs = [v] ∧ D C H F v d ∧ (∀ x, d ≠ .str x) ∧ rpOk d ∧ Q (.str (shT d)) H
theorem call_str (hK : X.K = C.K) (hgd : X.A.guards = some []) (hu : X.A.units + 64 < cLine) : CallR X (.type "str") (rStr C) := by
  intro pins s σ H xs us Q I r h
  rcases h with ⟨y, rfl, q⟩ | ⟨F, v, d, rfl, hd, hn, ⟨h1, h2⟩, q⟩
  · obtain ⟨u, rfl, t, rfl⟩ := vals1 r
    exact PySem.P.str_of_str ⟨.str y, H, I, ⟨t, rfl⟩, q⟩
  cases r with
  | cons r rr =>
    cases rr
    rename_i u
    obtain ⟨as, x⟩ := D.reads I hK h1 hd r
    obtain ⟨s1, s2, s3⟩ := rpD_lay h1
    have hl := shT_len h1
    have hsz : (shT d).length ≤ sizeLine := Nat.le_trans (Nat.le_of_lt_succ (by omega : (shT d).length < 2000 * 8000 + 1)) (by decide)
    have leaf : ∀ {tk : Nat}, EP X pins σ Q (.str (shT d) s.toks) { s with toks := s.toks + 1 } := fun {tk} => ⟨.str _, H, I.tok _, ⟨_, rfl⟩, q⟩
    cases hd with
    | non => cases r; exact PySem.P.str_of_none (leaf (tk := 0))
    | bl b => cases r; exact PySem.P.str_of_bool (leaf (tk := 0))
    | int i => obtain ⟨t, rfl⟩ := r; exact PySem.P.str_of_int (of_decide_eq_true s1) (leaf (tk := 0))
    | str y => exact (hn y rfl).elim
    | lst a b c => cases r; exact str_of_reads x s1 (fun z => by rw [s2] at z; cases z) hgd (by omega) (fun _ _ e => e) (fun h' u tk k => ⟨.str _, H, I.kept (t' := tk) k, ⟨u, rfl⟩, q⟩) hsz
    | tup a b => cases r; exact str_of_reads x s1 (fun z => by rw [s2] at z; cases z) hgd (by omega) (fun _ _ e => e) (fun h' u tk k => ⟨.str _, H, I.kept (t' := tk) k, ⟨u, rfl⟩, q⟩) hsz
    | dctK => simp [rpD] at h1
    | dctT => simp [rpD] at h1
    | fn => simp [rpD] at h1
    | src => simp [rpD] at h1
end
end L3

/-! L3d: tests, built-in functions. -/
namespace L3
open PySem PySem.Spec PyProof.Rows L2

section
variable {X : Cx} {C : Ctx} {W : WX} {a b c e : Expr} {wa wb wc : WE} {ta tb tc : WT} {es : List Expr} {ws : WA} {rest : List Expr} {pos : Pos}
/-- a value as a test -/
abbrev bOf (w : WE) : WT := fun ρ Q E => w ρ (fun d => ∃ b, d = .bl b ∧ Q b) E
theorem cT_tB {σ : L2.St} {H : Hp} {Q : Bool → Hp → Prop} (h : cT C W (bOf wa) σ H Q) : cE C W wa σ H fun x H1 => ∃ k, x = .bl k ∧ Q k H1 := by
  obtain ⟨F, ρ, Qv, Ev, rel, q, k, ex⟩ := h
  refine ⟨F, ρ, _, Ev, rel, q, fun v d F1 H1 x1 hd q1 => ?_, ex⟩
  obtain ⟨b, e, q1⟩ := q1
  subst e
  exact ⟨b, hd.bl_eq, k b F1 H1 x1 q1⟩
theorem vt_val (h : PE X e (cE C W wa)) (he : ∀ whole, isTrue e X.env whole = (do let v ← whole; standAt e.pos; holding [v] (truthy v))) : PT X e (cT C W (bOf wa)) :=
  (pt_val h he).imp fun _ _ _ h => cT_tB h
theorem vt_cmp {op : CmpOp} {r : R2} {w : T → T → (T → Prop) → Prop} (hs : SrcStays C) (hr : OpR X (compareOp op) r) (ho : OpD C r w) (ha : PE X a (cE C W wa)) (hb : PE X b (cE C W wb)) (hm : behindInMarks op b = false) :
    PT X (.Compare a [op] [b] pos) (cT C W (bOf fun ρ Q E => wa ρ (fun d => wb ρ (fun d' => w d d' Q) E) E)) :=
  (pt_cmpR hr ha hb hm).imp fun _ _ _ h => tOp_c hs ho (cT_tB h)
theorem vt_not (ha : PT X a (cT C W ta)) : PT X (.UnaryOp .Not a pos) (cT C W fun ρ Q E => ta ρ (fun b => Q (!b)) E) :=
  (pt_not ha).imp fun σ H Q ⟨F, ρ, Qv, Ev, rel, q, k, ex⟩ => ⟨F, ρ, _, Ev, rel, q, fun b F1 H1 x1 q1 => k _ F1 H1 x1 q1, ex⟩
theorem vw_and1 (ha : PT X a (cT C W ta)) : PW X (.BoolOp .And [a] pos) (cT C W ta) := pw_and1 ha
theorem vw_or1 (ha : PT X a (cT C W ta)) : PW X (.BoolOp .Or [a] pos) (cT C W ta) := pw_or1 ha
theorem vw_and (hs : SrcStays C) (ha : PT X a (cT C W ta)) (hb : PW X (.BoolOp .And (b :: rest) pos) (cT C W tb)) :
    PW X (.BoolOp .And (a :: b :: rest) pos) (cT C W fun ρ Q E => ta ρ (fun k => if k = true then tb ρ Q E else Q false) E) :=
  (pw_and ha hb).imp fun σ H Q ⟨F, ρ, Qv, Ev, rel, q, k, ex⟩ => ⟨F, ρ, _, Ev, rel, q, fun b F1 H1 x1 q1 => by
    cases b with
    | true => exact ⟨F1, ρ, Qv, Ev, rel.ext hs x1, q1, fun b F2 H2 x2 q2 => k b F2 H2 (x1.trans x2) q2, ex.ext x1⟩
    | false => exact k _ F1 H1 x1 q1, ex⟩
theorem vw_or (hs : SrcStays C) (ha : PT X a (cT C W ta)) (hb : PW X (.BoolOp .Or (b :: rest) pos) (cT C W tb)) :
    PW X (.BoolOp .Or (a :: b :: rest) pos) (cT C W fun ρ Q E => ta ρ (fun k => if k = true then Q true else tb ρ Q E) E) :=
  (pw_or ha hb).imp fun σ H Q ⟨F, ρ, Qv, Ev, rel, q, k, ex⟩ => ⟨F, ρ, _, Ev, rel, q, fun b F1 H1 x1 q1 => by
    cases b with
    | false => exact ⟨F1, ρ, Qv, Ev, rel.ext hs x1, q1, fun b F2 H2 x2 q2 => k b F2 H2 (x1.trans x2) q2, ex.ext x1⟩
    | true => exact k _ F1 H1 x1 q1, ex⟩
/-! .. as values -/
theorem ve_one {op : BoolOp} (ha : PE X a (cE C W wa)) : PE X (.BoolOp op [a] pos) (cE C W wa) := pe_one ha
theorem ve_and (hs : SrcStays C) (ha : PE X a (cE C W wa)) (hb : PE X (.BoolOp .And (b :: rest) pos) (cE C W wb)) :
    PE X (.BoolOp .And (a :: b :: rest) pos) (cE C W fun ρ Q E => wa ρ (fun d => ∃ k, d = .bl k ∧ if k = true then wb ρ Q E else Q (.bl false)) E) :=
  (pe_and ha hb).imp fun σ H Q ⟨F, ρ, Qv, Ev, rel, q, k, ex⟩ => ⟨F, ρ, _, Ev, rel, q, fun v d F1 H1 x1 hd ⟨b, e, q1⟩ => by
    subst e
    refine ⟨b, hd.bl_eq, ?_⟩
    cases b with
    | true => exact ⟨F1, ρ, Qv, Ev, rel.ext hs x1, q1, fun v d F2 H2 x2 hd q2 => k v d F2 H2 (x1.trans x2) hd q2, ex.ext x1⟩
    | false => exact k _ _ F1 H1 x1 (.bl _) q1, ex⟩
theorem ve_or (hs : SrcStays C) (ha : PE X a (cE C W wa)) (hb : PE X (.BoolOp .Or (b :: rest) pos) (cE C W wb)) :
    PE X (.BoolOp .Or (a :: b :: rest) pos) (cE C W fun ρ Q E => wa ρ (fun d => ∃ k, d = .bl k ∧ if k = true then Q (.bl true) else wb ρ Q E) E) :=
  (pe_or ha hb).imp fun σ H Q ⟨F, ρ, Qv, Ev, rel, q, k, ex⟩ => ⟨F, ρ, _, Ev, rel, q, fun v d F1 H1 x1 hd ⟨b, e, q1⟩ => by
    subst e
    refine ⟨b, hd.bl_eq, ?_⟩
    cases b with
    | false => exact ⟨F1, ρ, Qv, Ev, rel.ext hs x1, q1, fun v d F2 H2 x2 hd q2 => k v d F2 H2 (x1.trans x2) hd q2, ex.ext x1⟩
    | true => exact k _ _ F1 H1 x1 (.bl _) q1, ex⟩
theorem ve_not (ha : PE X a (cE C W wa)) : PE X (.UnaryOp .Not a pos) (cE C W fun ρ Q E => wa ρ (fun d => ∃ k, d = .bl k ∧ Q (.bl (!k))) E) :=
  (pe_not ha).imp fun σ H Q ⟨F, ρ, Qv, Ev, rel, q, k, ex⟩ => ⟨F, ρ, _, Ev, rel, q, fun v d F1 H1 x1 hd ⟨b, e, q1⟩ => by
    subst e
    exact ⟨b, hd.bl_eq, k _ _ F1 H1 x1 (.bl _) q1⟩, ex⟩
theorem ve_ite (hs : SrcStays C) (hc : PT X c (cT C W tc)) (ha : PE X a (cE C W wa)) (hb : PE X b (cE C W wb)) :
    PE X (.IfExp c a b pos) (cE C W fun ρ Q E => tc ρ (fun k => if k = true then wa ρ Q E else wb ρ Q E) E) :=
  (pe_ifExp hc ha hb).imp fun σ H Q ⟨F, ρ, Qv, Ev, rel, q, k, ex⟩ => ⟨F, ρ, _, Ev, rel, q, fun b F1 H1 x1 q1 => by
    cases b with
    | true => exact ⟨F1, ρ, Qv, Ev, rel.ext hs x1, q1, fun v d F2 H2 x2 hd q2 => k v d F2 H2 (x1.trans x2) hd q2, ex.ext x1⟩
    | false => exact ⟨F1, ρ, Qv, Ev, rel.ext hs x1, q1, fun v d F2 H2 x2 hd q2 => k v d F2 H2 (x1.trans x2) hd q2, ex.ext x1⟩, ex⟩
/-- a op1 b op2 c -/
theorem tChain_c {r r' : R2} {w w' : T → T → (T → Prop) → Prop} (hs : SrcStays C) (ho : OpD C r w) (ho' : OpD C r' w') {σ : L2.St} {H : Hp} {Q : VK}
    (h : cE C W (fun ρ Q E => wa ρ (fun d => wb ρ (fun d' => w d d' fun x => ∃ k, x = .bl k ∧ if k = true then wc ρ (fun d2 => w' d' d2 Q) E else Q (.bl false)) E) E) σ H Q) : tChain r r' (cE C W wa) (cE C W wb) (cE C W wc) σ H Q := by
  obtain ⟨F, ρ, Qv, Ev, rel, q, k, ex⟩ := h
  exact ⟨F, ρ, _, Ev, rel, q, fun v d F1 H1 x1 hd q1 =>
    ⟨F1, ρ, _, Ev, rel.ext hs x1, q1, fun v2 d2 F2 H2 x2 hd2 q2 => ho F2 H2 v v2 d d2 _ _ (hd.later hs x2.later) hd2 q2 fun v3 d3 F3 H3 x3 hd3 ⟨kk, e, q3⟩ => by
      subst e
      refine ⟨kk, hd3.bl_eq, ?_⟩
      cases kk with
      | true =>
        exact ⟨F3, ρ, _, Ev, rel.ext hs ((x1.trans x2).trans x3), q3, fun v4 d4 F4 H4 x4 hd4 q4 => ho' F4 H4 v2 v4 d2 d4 Qv _ (hd2.later hs (x3.trans x4).later) hd4 q4 fun v5 d5 F5 H5 x5 hd5 q5 => k v5 d5 F5 H5 ((((x1.trans x2).trans x3).trans x4).trans x5) hd5 q5, ex.ext ((x1.trans x2).trans x3)⟩
      | false => exact k _ _ F3 H3 ((x1.trans x2).trans x3) (.bl _) q3, ex.ext x1⟩, ex⟩
theorem ve_chain {op op' : CmpOp} {r r' : R2} {w w' : T → T → (T → Prop) → Prop} (hs : SrcStays C) (hr : OpR X (compareOp op) r) (ho : OpD C r w) (hr' : OpR X (compareOp op') r') (ho' : OpD C r' w')
    (ha : PE X a (cE C W wa)) (hb : PE X b (cE C W wb)) (hc : PE X c (cE C W wc)) (hm : lastMarks [op, op'] [b, c] = false) :
    PE X (.Compare a [op, op'] [b, c] pos) (cE C W fun ρ Q E => wa ρ (fun d => wb ρ (fun d' => w d d' fun x => ∃ k, x = .bl k ∧ if k = true then wc ρ (fun d2 => w' d' d2 Q) E else Q (.bl false)) E) E) :=
  (pe_chain hr hr' ha hb hc hm).imp fun _ _ _ h => tChain_c hs ho ho' h
theorem vt_chain {op op' : CmpOp} {r r' : R2} {w w' : T → T → (T → Prop) → Prop} (hs : SrcStays C) (hr : OpR X (compareOp op) r) (ho : OpD C r w) (hr' : OpR X (compareOp op') r') (ho' : OpD C r' w')
    (ha : PE X a (cE C W wa)) (hb : PE X b (cE C W wb)) (hc : PE X c (cE C W wc)) (hm : lastMarks [op, op'] [b, c] = false) :
    PT X (.Compare a [op, op'] [b, c] pos) (cT C W (bOf fun ρ Q E => wa ρ (fun d => wb ρ (fun d' => w d d' fun x => ∃ k, x = .bl k ∧ if k = true then wc ρ (fun d2 => w' d' d2 Q) E else Q (.bl false)) E) E)) :=
  (pt_chain hr hr' ha hb hc hm).imp fun _ _ _ h => tChain_c hs ho ho' (cT_tB h)

/-! ### built-in functions -/
def CallD (C : Ctx) (r : List V → Hp → VK → Prop) (w : List T → (T → Prop) → Prop) : Prop :=
  ∀ (F : Addr → Prop) (H : Hp) (vs : List V) (ds : List T) (Qv : T → Prop) (Q : VK), Ds C H F vs ds → w ds Qv → (∀ v d F' H', Ext C F H F' H' → D C H' F' v d → Qv d → Q v H') → r vs H Q
theorem tCB_c {r : List V → Hp → VK → Prop} {w : List T → (T → Prop) → Prop} (ho : CallD C r w) {σ : L2.St} {H : Hp} {Q : VK} (h : cE C W (fun ρ Q E => ws ρ (fun ds => w ds Q) E) σ H Q) : tCB r (cA C W ws) σ H Q := by
  obtain ⟨F, ρ, Qv, Ev, rel, q, k, ex⟩ := h
  exact ⟨F, ρ, _, Ev, rel, q, fun vs ds F1 H1 x1 hds q1 => ho F1 H1 vs ds Qv Q hds q1 fun v d F2 H2 x2 hd q2 => k v d F2 H2 (x1.trans x2) hd q2, ex⟩
end

theorem Ds.one {C : Ctx} {H : Hp} {F : Addr → Prop} {vs : List V} {d : T} (h : Ds C H F vs [d]) : ∃ v, vs = [v] ∧ D C H F v d := by
  cases h with
  | cons h1 h2 => cases h2; exact ⟨_, rfl, h1⟩
theorem Ds.two {C : Ctx} {H : Hp} {F : Addr → Prop} {vs : List V} {d d' : T} (h : Ds C H F vs [d, d']) : ∃ v v', vs = [v, v'] ∧ D C H F v d ∧ D C H F v' d' := by
  cases h with
  | cons h1 h2 =>
    obtain ⟨v', e, h3⟩ := h2.one
    exact ⟨_, v', by rw [e], h1, h3⟩

/-- the built-in functions and types that are called -/
inductive Bf where
  | len | abs | int | list | tuple | all | any | sum | max2 | min2 | repr | str
  deriving DecidableEq
def Bf.name : Bf → Str
  | .len => "len" | .abs => "abs" | .int => "int" | .list => "list" | .tuple => "tuple" | .all => "all" | .any => "any" | .sum => "sum" | .max2 => "max" | .min2 => "min" | .repr => "repr" | .str => "str"
def Bf.val : Bf → Value
  | .len => .builtin "len" | .abs => .builtin "abs" | .int => .type "int" | .list => .type "list" | .tuple => .type "tuple" | .all => .builtin "all" | .any => .builtin "any" | .sum => .builtin "sum" | .max2 => .builtin "max" | .min2 => .builtin "min" | .repr => .builtin "repr" | .str => .type "str"
/-- a list of bools -/
def blsT : List T → Option (List Bool)
  | [] => some []
  | .bl b :: xs => (blsT xs).map (b :: ·)
  | _ :: _ => none
def intsT : List T → Option (List Int)
  | [] => some []
  | .int b :: xs => (intsT xs).map (b :: ·)
  | _ :: _ => none
def Bf.w : Bf → List T → (T → Prop) → Prop
  | .len, [.lst xs], Q => Q (.int xs.length)
  | .len, [.tup xs], Q => Q (.int xs.length)
  | .len, [.str x], Q => x.length ≤ sizeLine ∧ Q (.int x.length)
  | .len, [.dct x], Q => Q (.int x.length)
  | .abs, [.int i], Q => Q (.int (if i < 0 then -i else i))
  | .int, [.int i], Q => Q (.int i)
  | .int, [.bl b], Q => Q (.int (if b then 1 else 0))
  | .list, [.lst xs], Q => Q (.lst xs)
  | .list, [.tup xs], Q => Q (.lst xs)
  | .tuple, [.lst xs], Q => Q (.tup xs)
  | .tuple, [.tup xs], Q => Q (.tup xs)
  | .all, [.lst xs], Q => ∃ bs, blsT xs = some bs ∧ Q (.bl (bs.all id))
  | .any, [.lst xs], Q => ∃ bs, blsT xs = some bs ∧ Q (.bl (bs.any id))
  | .sum, [.lst xs], Q => ∃ ns, intsT xs = some ns ∧ Q (.int ns.sum)
  | .sum, [.tup xs], Q => ∃ ns, intsT xs = some ns ∧ Q (.int ns.sum)
  | .max2, [.int i, .int j], Q => Q (.int (if j > i then j else i))
  | .min2, [.int i, .int j], Q => Q (.int (if j < i then j else i))
  | .repr, [d], Q => rpOk d ∧ Q (.str (shT d))
  | .str, [.str x], Q => Q (.str x)
  | .str, [d], Q => rpOk d ∧ Q (.str (shT d))
  | _, _, _ => False
theorem Ds.bls {C : Ctx} {H : Hp} {F : Addr → Prop} : ∀ {ds : List T} {vs : List V} {bs : List Bool}, Ds C H F vs ds → blsT ds = some bs → vs = bs.map V.bl
  | [], vs, bs, h, e => by cases h; cases e; rfl
  | .bl b :: ds, vs, bs, h, e => by
    cases h with
    | cons h1 h2 =>
      unfold blsT at e
      cases q : blsT ds with
      | none => rw [q] at e; cases e
      | some cs =>
        rw [q] at e
        cases e
        rw [h1.bl_eq, Ds.bls h2 q]
        rfl
  | .non :: _, _, _, _, e => by cases e
  | .int _ :: _, _, _, _, e => by cases e
  | .str _ :: _, _, _, _, e => by cases e
  | .lst _ :: _, _, _, _, e => by cases e
  | .tup _ :: _, _, _, _, e => by cases e
  | .dct _ :: _, _, _, _, e => by cases e
  | .fn _ :: _, _, _, _, e => by cases e
  | .src _ _ :: _, _, _, _, e => by cases e
  | .ex _ :: _, _, _, _, e => by cases e
theorem Ds.ints {C : Ctx} {H : Hp} {F : Addr → Prop} : ∀ {ds : List T} {vs : List V} {bs : List Int}, Ds C H F vs ds → intsT ds = some bs → vs = bs.map V.int
  | [], vs, bs, h, e => by cases h; cases e; rfl
  | .int b :: ds, vs, bs, h, e => by
    cases h with
    | cons h1 h2 =>
      unfold intsT at e
      cases q : intsT ds with
      | none => rw [q] at e; cases e
      | some cs =>
        rw [q] at e
        cases e
        rw [h1.int_eq, Ds.ints h2 q]
        rfl
  | .non :: _, _, _, _, e => by cases e
  | .bl _ :: _, _, _, _, e => by cases e
  | .str _ :: _, _, _, _, e => by cases e
  | .lst _ :: _, _, _, _, e => by cases e
  | .tup _ :: _, _, _, _, e => by cases e
  | .dct _ :: _, _, _, _, e => by cases e
  | .fn _ :: _, _, _, _, e => by cases e
  | .src _ _ :: _, _, _, _, e => by cases e
  | .ex _ :: _, _, _, _, e => by cases e
theorem boot_of {b : Bf} : bootBuiltins b.name = some b.val := by cases b <;> decide +kernel
end L3

/-! L3ea: enumerate of a tuple. -/
namespace PySem
open Sem (wp)
set_option maxHeartbeats 1000000 in
theorem meets_enumerate_newB1 {v : Value} {o : Obj} {H : Heap → Prop} (B : Begins v o H) :
    Meets (Builtin.«enumerate.__new__» ⟨[.type "enumerate", v], []⟩) (fun _ R s => H s.heap ∧
      R (.ok (.ret (.ref (s.heap.push o).objs.size))) { s with heap := (s.heap.push o).push { cls := .type "enumerate", data := .fields #[.none, .bool false, .ref s.heap.objs.size, rawInt 0, .none, .none] } }) :=
  .of_wp fun prog w A R s h => by
    obtain ⟨hp, g, d, tk, os⟩ := s; obtain ⟨h1, h⟩ := h
    have hsub := sub_enumerate
    have q1 : ∀ {A' : Around} {E : Value → Shared → Prop} {Q : Value → Shared → Prop}, Q (.ref hp.objs.size) ⟨hp.push o, g, d, tk, os⟩ → wpAny (model prog w) A' (pyIter v) Q E ⟨hp, g, d, tk, os⟩ :=
      fun q => B.iter prog w _ _ ⟨hp, g, d, tk, os⟩ _ h1 q
    wp_walk using q1
    refine wpAny_stack_any fun st => wpAny_pure ?_
    split
    · rename_i c _ _ _ _ _
      cases (c == Value.type "enumerate")
      · wp_walk using q1
        exact ⟨_, rfl, h⟩
      · wp_walk using q1
        exact ⟨_, rfl, h⟩
    · wp_walk using q1
      exact ⟨_, rfl, h⟩
section
variable {prog : Program} {w : World} {A : Around} {E : Value → Shared → Prop} {s : Shared}
theorem enum_begins1 {v : Value} {o : Obj} {H : Heap → Prop} {Q : Value → Shared → Prop} (B : Begins v o H) (h1 : H s.heap)
    (h : ∀ h', IsEnum h' (s.heap.objs.size + 1) s.heap.objs.size 0 .none → h'.get? s.heap.objs.size = some o → h'.objs.size = s.heap.objs.size + 2 →
      (∀ b o, s.heap.get? b = some o → h'.get? b = some o) → Q (.ref (s.heap.objs.size + 1)) { s with heap := h' }) :
    wpAny (model prog w) A (call (.type "enumerate") [v]) Q E s := by
  refine callType_new F.called_enumerate (by decide) (F.typeCall_enumerate_1 _) (F.newCall_enumerate_1 _) (fun obj => F.args_object_init_2 obj _) F.entry_enumerate_new
    (meets_enumerate_newB1 B) ⟨h1, ?_⟩
  have hz : (s.heap.push o).objs.size = s.heap.objs.size + 1 := Heap.size_push ..
  show _ ∧ _
  rw [hz]
  have he : IsEnum ((s.heap.push o).push { cls := .type "enumerate", data := .fields #[.none, .bool false, .ref s.heap.objs.size, rawInt 0, .none, .none] }) (s.heap.objs.size + 1) s.heap.objs.size 0 .none := by
    have := Heap.get?_push_size (s.heap.push o) (o := { cls := .type "enumerate", data := .fields #[.none, .bool false, .ref s.heap.objs.size, rawInt 0, .none, .none] }) rfl
    rw [hz] at this; exact this
  refine ⟨⟨_, he, rfl⟩, h _ he (Heap.get?_push_of_some _ (Heap.get?_push_size _ B.free)) (by rw [Heap.size_push, hz]) fun b o x => Heap.get?_push_of_some _ (Heap.get?_push_of_some _ x)⟩
end
end PySem
namespace L3
open PySem PySem.Spec PyProof.Rows L2
def Ien (K : PySem.W.Frag) (a : Addr) : It :=
  ⟨fun i H => ∃ (xs : List V) (x : V), SqT K H a xs ∧ xs[i]? = some x, fun i H v H' => ∃ T x, v = .ref T ∧ H T = none ∧ H' = upd H T (.tup [.int (i : Nat), x]) ∧ ∀ xs, SqT K H a xs → xs[i]? = some x, fun i H => ∃ xs : List V, SqT K H a xs ∧ xs.length = i⟩
theorem turn_en {P : Program} {w : World} {K : PySem.W.Frag} {elts : List Expr} {kk : Nat} {tpos : Pos} (a e it : Addr) :
    Turn P w K (.Tuple elts kk tpos) (Ien K a) [e, it] e (fun i h => (∃ old, IsEnum h e it ((i : Nat) : Int) old) ∧ h.IsTupleIter it a i ∧ e ≠ it) where
  mem := by simp
  obj := fun i h st b hb => by
    obtain ⟨⟨old, he⟩, ⟨o, ho, hc, hd⟩, _⟩ := st
    have e' : b = e ∨ b = it := by simpa using hb
    rcases e' with z | z
    · rw [z]; exact ⟨_, he, fun v q => nomatch q⟩
    · rw [z]; exact ⟨o, ho, fun v q => by rw [hd] at q; cases q⟩
  keep := fun i h h' st k => let ⟨⟨old, he⟩, hi, hne⟩ := st; ⟨⟨old, k e (by simp) _ he⟩, hi.at fun o q => k it (by simp) o q, hne⟩
  item := by
    intro X hP hw hK hc i pins s σ H E I hf st hg
    subst hP hw hK
    obtain ⟨⟨old, he⟩, hit, hne⟩ := st
    obtain ⟨xs, x, hq, hx⟩ := hg
    obtain ⟨its, rv, p, hz⟩ := I.tuple hq
    obtain ⟨u, hu, ru⟩ := rv.get hx
    have hel : e < s.heap.objs.size := Heap.lt_size he
    have hil : it < s.heap.objs.size := by obtain ⟨_, q, _⟩ := hit; exact Heap.lt_size q
    have hT0 : s.heap.IsTuple a its.toArray := p
    have hai : a ≠ it := fun z => by
      obtain ⟨o, ho, hc, _⟩ := hT0
      obtain ⟨o', ho', hc', _⟩ := hit
      subst z
      rw [ho] at ho'; cases ho'
      rw [hc] at hc'
      exact absurd (Value.type.inj hc') (by decide)
    have hae : e ≠ a := fun z => by
      obtain ⟨o, ho, hc, _⟩ := hT0
      subst z
      have he : s.heap.get? e = _ := he
      rw [ho] at he; cases he
      exact absurd (Value.type.inj hc) (by decide)
    have D := Draws.tuple (prog := X.prog) (w := X.w) (A := X.A.in1) (I.ok.hd hc) it a hai its.toArray
    have hlt : i < its.toArray.size := by
      have := (List.getElem?_eq_some_iff.mp hu).1
      simpa using this
    refine wpAny_pyNext_enum_itemD D he ⟨hit, hT0⟩ hlt hne (by simp [hne, hae]) fun x1 h' tk hP ho hst' hT hsz hk => ?_
    have ex : x1 = u := by
      have z : its.toArray[i]? = some u := by simpa using hu
      rw [z] at hP
      exact (Option.some.inj hP).symm
    subst ex
    refine ⟨_, rfl, wpAny_letOwnedTupleGo_enum (s := { s with heap := h', toks := tk + 1 }) ho fun h'' he' sb => ?_⟩
    have hT2 : h''.get? s.heap.objs.size = some { cls := .type "tuple", data := .seq #[.int i tk, x1] } := (sb.2 _ (Nat.ne_of_gt hel)).trans hT
    have new : ObjOk X.prog X.w (upd H s.heap.objs.size (.tup [.int (i : Nat), x])) h'' s.heap.objs.size (.tup [.int (i : Nat), x]) :=
      ⟨by show 2 ≤ sizeLine; decide, [.int i tk, x1], .cons ⟨_, rfl⟩ (.cons ru .nil), ⟨_, hT2, rfl, _, rfl⟩⟩
    have I1 : Inv X pins σ (upd H s.heap.objs.size (.tup [.int (i : Nat), x])) { s with heap := h'', toks := tk + 1 } :=
      I.turnedNew (ch := [e, it]) (fun b ob hb q => (sb.2 b (fun z => hb (by simp [z]))).trans (hk b ob (fun z => hb (by simp [z])) (fun z => hb (by simp [z])) q)) hf (Nat.le_refl _) new
    refine ⟨.ref s.heap.objs.size, _, I1, rfl, ⟨_, x, rfl, I.hok.fresh (Nat.le_refl _), rfl, fun ys hy => by rw [I.tuple_inj hy hq]; exact hx⟩, ⟨⟨x1, ?_⟩, hst'.1.at fun o q => (sb.2 it (Ne.symm hne)).trans q, hne⟩, fun b hb => ?_⟩
    · have e1 : ((i + 1 : Nat) : Int) = (i : Int) + 1 := by omega
      rw [e1]; exact he'
    · have hb' : b < s.heap.objs.size := by
        have e' : b = e ∨ b = it := by simpa using hb
        rcases e' with z | z
        · rw [z]; exact hel
        · rw [z]; exact hil
      rw [upd_ne (Nat.ne_of_lt hb')]
      exact (hf b hb).1
  done := by
    intro X hP hw hK hc i pins s σ H E I hf st hg
    subst hP hw hK
    obtain ⟨⟨old, he⟩, hit, hne⟩ := st
    obtain ⟨xs, hq, hx⟩ := hg
    obtain ⟨its, rv, p, hz⟩ := I.tuple hq
    obtain ⟨f0, f1, f2, f3, f4, f5⟩ := hf it (by simp)
    have hl := rv.length
    have hT0 : s.heap.IsTuple a its.toArray := p
    have hai : a ≠ it := fun z => by
      obtain ⟨o, ho, hc, _⟩ := hT0
      obtain ⟨o', ho', hc', _⟩ := hit
      subst z
      rw [ho] at ho'; cases ho'
      rw [hc] at hc'
      exact absurd (Value.type.inj hc') (by decide)
    have D := Draws.tuple (prog := X.prog) (w := X.w) (A := X.A.in1) (I.ok.hd hc) it a hai (its.toArray)
    have hi : i = its.toArray.size := by simp; omega
    subst hi
    exact wpAny_pyNext_enum_endD D he ⟨hit, hT0⟩ fun h' eb => ⟨rfl, I.turned (t' := s.toks) (fun b o hb q => eb b o hb q) f0 f1 f3 f4 f5⟩
  self := fun A i s Q E st h => let ⟨⟨_, he⟩, _⟩ := st; wpAny_pyIter_enum he h
/-- a list or a tuple -/
def iEn (K : PySem.W.Frag) (ta : TA) : TI := fun σ H R => ta σ H fun vs H1 => (∃ a xs, vs = [.ref a] ∧ SqL K H1 a xs ∧ R (Ite K a) H1) ∨ ∃ a xs, vs = [.ref a] ∧ SqT K H1 a xs ∧ R (Ien K a) H1
theorem pi_en {X : Cx} {e : Expr} {ta : TA} {p pos tpos : Pos} {elts : List Expr} {kk : Nat} (hg : Gl X "enumerate") (hm : X.mg "enumerate" = none) (ha : PA X [e] ta) (hs : starEach [e] X.env = [(false, eval e X.env)]) :
    PI X (.Tuple elts kk tpos) (.Call (.Name "enumerate" p) [e] [] pos) (iEn X.K ta) := by
  refine ⟨fun pins s σ H R I h => ?_⟩
  refine Call_ (ld_blt I hg hm boot_enumerate (PyProof.Rows.callWith_type1 (thn (ha.run pos pins s σ H _ I h) fun us s1 ⟨vs, H1, I1, r1, q1⟩ => ?_) hs rfl))
  have lies : ∀ {b : Addr}, b ∈ [s1.heap.objs.size + 1, s1.heap.objs.size] → s1.heap.objs.size ≤ b := fun {b} hb => by
    have e' : b = s1.heap.objs.size + 1 ∨ b = s1.heap.objs.size := by simpa using hb
    rcases e' with z | z
    · rw [z]; exact Nat.le_add_right _ _
    · rw [z]; exact Nat.le_refl _
  rcases q1 with ⟨a, xs, ex, hq, q⟩ | ⟨a, xs, ex, hq, q⟩
  · subst ex
    cases r1 with
    | cons r rr =>
      cases rr
      cases r
      obtain ⟨its, rv, p', hz⟩ := I1.list hq
      refine call_enumerate_list p'.isList fun h' he hit hsz hk => wpAny_pyIter_enum he ?_
      have I2 : Inv X pins σ H1 { s1 with heap := h' } := I1.kept (t' := s1.toks) hk
      exact ⟨s1.heap.objs.size + 1, [s1.heap.objs.size + 1, s1.heap.objs.size], _, _, H1, rfl, I2, turn_enum a (s1.heap.objs.size + 1) s1.heap.objs.size, ⟨⟨.none, he⟩, hit, Nat.succ_ne_self _⟩, fun b hb => I1.fpOk (lies hb) (I1.hok.fresh (lies hb)), q⟩
  · subst ex
    cases r1 with
    | cons r rr =>
      cases rr
      cases r
      obtain ⟨its, rv, p', hz⟩ := I1.tuple hq
      refine enum_begins1 (begins_tuple a its.toArray) p' fun h' he hit hsz hk => wpAny_pyIter_enum he ?_
      have I2 : Inv X pins σ H1 { s1 with heap := h' } := I1.kept (t' := s1.toks) hk
      exact ⟨s1.heap.objs.size + 1, [s1.heap.objs.size + 1, s1.heap.objs.size], _, _, H1, rfl, I2, turn_en a (s1.heap.objs.size + 1) s1.heap.objs.size, ⟨⟨.none, he⟩, ⟨_, hit, rfl, rfl⟩, Nat.succ_ne_self _⟩, fun b hb => I1.fpOk (lies hb) (I1.hok.fresh (lies hb)), q⟩
end L3

/-! L3eb: sum of a list or a tuple of ints. -/
namespace L3
open PySem PySem.Spec PyProof.Rows L2
section
variable {prog : Program} {w : World} {A : Around} {E : Value → Shared → Prop} {s : Shared} {t : Addr} {its : List Value} {ns : List Int} {Q : Value → Shared → Prop}
theorem sum_tup (hh : A.handled = none) (ht : s.heap.IsTuple t its.toArray) (hi : IntsAre its ns)
    (fin : ∀ h' tk u, (∀ b o, s.heap.get? b = some o → h'.get? b = some o) → Q (.int ns.sum u) { s with heap := h', toks := tk }) : wpAny (model prog w) A (call (.builtin "sum") [.ref t]) Q E s := by
  obtain ⟨xs, ex⟩ := hi.allInts.items
  have en : numsOf (intItems xs).toList = ns := (congrArg (fun z : Array Value => numsOf z.toList) ex).symm.trans hi.numsOf
  rw [nums_intItems] at en
  rw [ex] at ht
  have tl : t < s.heap.objs.size := by
    obtain ⟨_, e, _⟩ := ht
    exact Heap.lt_size e
  refine call_sum_walkG (wpAny_pyIter_tuple ht ?_)
  refine ⟨_, _, _, _, _, _, numAt xs, rfl, Walks.tuple (A := A.in1) hh _ t (Nat.ne_of_lt tl) (intItems xs), ⟨⟨_, Heap.get?_push_size _ rfl, rfl, rfl⟩, ht.push _⟩, fun b hb => ?_, fun _ _ => intItems_at, fun h' tk u hk => ?_⟩
  · have hb : b = s.heap.objs.size ∨ b = t := by simpa using hb
    show b < (s.heap.push _).objs.size
    rw [Heap.size_push]
    rcases hb with rfl | rfl
    · exact Nat.lt_succ_self _
    · exact Nat.lt_succ_of_lt tl
  · have r := fin h' tk u fun b o e => hk b o (fun hm => by
      have hm : b = s.heap.objs.size := by simpa using hm
      exact absurd (hm ▸ Heap.lt_size e) (Nat.lt_irrefl _)) (Heap.get?_push_of_some _ e)
    rw [preSum_eq, List.take_of_length_le (by simp [intItems]), en]
    exact r
end
section
variable {X : Cx}
def rSumT (K : PySem.W.Frag) : List V → Hp → VK → Prop := fun vs H Q => ∃ (a : Addr) (ns : List Int), vs = [V.ref a] ∧ (SqL K H a (ns.map V.int) ∨ SqT K H a (ns.map V.int)) ∧ Q (.int ns.sum) H
theorem cr_sumT (hc : X.calm = true) : CallR X (.builtin "sum") (rSumT X.K) := fun pins s σ H vs us Q I r h => by
  obtain ⟨a, ns, e, hs, q⟩ := h
  rcases hs with hs | hs
  · exact cr_sum hc pins s σ H vs us Q I r ⟨a, ns, e, hs, q⟩
  · subst e
    obtain ⟨its, rv, ht, _⟩ := I.tuple hs
    rw [Vals.ref1 r]
    exact sum_tup (I.ok.hd hc) ht rv.ints fun h' tk u hk => ⟨.int _, H, I.kept hk, ⟨_, rfl⟩, q⟩
end
end L3

/-! L3e: built-in functions hold their words. -/
namespace L3
open PySem PySem.Spec PyProof.Rows L2
abbrev rLenD : List V → Hp → VK → Prop := fun xs H Q => ∃ a kvs, xs = [V.ref a] ∧ H a = some (.dK kvs) ∧ Q (.int kvs.length) H
abbrev rLenS (K : PySem.W.Frag) : List V → Hp → VK → Prop := fun xs H Q => ∃ x n, xs = [x] ∧ LenV K x H n ∧ Q (.int n) H
theorem zip_len {α β : Type} {xs : List α} {ys : List β} (h : xs.length = ys.length) : (xs.zip ys).length = xs.length := by
  rw [List.length_zip, h, Nat.min_self]
theorem len_ok {X : Cx} {C : Ctx} (hK : X.K = C.K) : ∃ r, CallR X (.builtin "len") r ∧ CallD C r (Bf.w .len) := by
  refine ⟨_, call_len.or (call_lenD.or call_len_dT), fun F H vs ds Qv Q hds hw k => ?_⟩
  unfold Bf.w at hw
  split at hw <;> first | (rename_i hb; cases hb) | skip
  all_goals first | exact hw.elim | skip
  · obtain ⟨v, rfl, hd⟩ := hds.one
    obtain ⟨a, xs, rfl, ha, fa, hx⟩ := hd.isL
    exact .inl ⟨.ref a, xs.length, rfl, .inl ⟨xs, .of ha, rfl⟩, k _ _ F H .refl (.int _) (by rw [hx.length]; exact hw)⟩
  · obtain ⟨v, rfl, hd⟩ := hds.one
    obtain ⟨a, xs, rfl, ha, hx⟩ := hd.isT
    exact .inl ⟨.ref a, xs.length, rfl, .inr ⟨xs, by rw [hK]; exact ha, rfl⟩, k _ _ F H .refl (.int _) (by rw [hx.length]; exact hw)⟩
  · obtain ⟨v, rfl, hd⟩ := hds.one
    rw [hd.str_eq]
    exact .inl ⟨.str _, _, rfl, ⟨hw.1, rfl⟩, k _ _ F H .refl (.int _) hw.2⟩
  · obtain ⟨v, rfl, hd⟩ := hds.one
    cases hd with
    | dctK h1 h2 h3 =>
      refine .inr (.inl ⟨_, _, rfl, h1, k _ _ F H .refl (.int _) ?_⟩)
      have e := h3.length
      rw [zip_len (by rw [List.length_map]; rw [List.length_map] at e; exact e), List.length_map] at hw
      exact hw
    | dctT h1 h2 h3 =>
      refine .inr (.inr ⟨_, _, rfl, h1, k _ _ F H .refl (.int _) ?_⟩)
      have e := h3.length
      rw [zip_len (by rw [List.length_map]; rw [List.length_map] at e; exact e), List.length_map] at hw
      exact hw
theorem bf_ok {X : Cx} {C : Ctx} (hs : SrcStays C) (hK : X.K = C.K) (hc : X.calm = true) (hgd : X.A.guards = some []) (hu : X.A.units + 64 < cLine) (b : Bf) : ∃ r, CallR X b.val r ∧ CallD C r b.w := by
  cases b with
  | len => exact len_ok hK
  | abs =>
    refine ⟨_, call_abs, fun F H vs ds Qv Q hds hw k => ?_⟩
    unfold Bf.w at hw
    split at hw <;> first | (rename_i hb; cases hb) | skip
    all_goals first | exact hw.elim | skip
    obtain ⟨v, rfl, hd⟩ := hds.one
    rw [hd.int_eq]
    exact ⟨_, rfl, k _ _ F H .refl (.int _) hw⟩
  | int =>
    refine ⟨_, call_int1, fun F H vs ds Qv Q hds hw k => ?_⟩
    unfold Bf.w at hw
    split at hw <;> first | (rename_i hb; cases hb) | skip
    all_goals first | exact hw.elim | skip
    · obtain ⟨v, rfl, hd⟩ := hds.one
      rw [hd.int_eq]
      exact .inl ⟨_, rfl, k _ _ F H .refl (.int _) hw⟩
    · obtain ⟨v, rfl, hd⟩ := hds.one
      rw [hd.bl_eq]
      exact .inr ⟨_, rfl, k _ _ F H .refl (.int _) hw⟩
  | list =>
    refine ⟨_, call_list_of, fun F H vs ds Qv Q hds hw k => ?_⟩
    unfold Bf.w at hw
    split at hw <;> first | (rename_i hb; cases hb) | skip
    all_goals first | exact hw.elim | skip
    · obtain ⟨v, rfl, hd⟩ := hds.one
      obtain ⟨a, xs, rfl, ha, fa, hx⟩ := hd.isL
      exact ⟨a, xs, rfl, .inl (.of ha), fun p hp => k _ _ _ _ (.new_fz hp) (.lst upd_same (.inr rfl) (hx.later hs (later_fz hp))) hw⟩
    · obtain ⟨v, rfl, hd⟩ := hds.one
      obtain ⟨a, xs, rfl, ha, hx⟩ := hd.isT
      exact ⟨a, xs, rfl, .inr (by rw [hK]; exact ha), fun p hp => k _ _ _ _ (.new_fz hp) (.lst upd_same (.inr rfl) (hx.later hs (later_fz hp))) hw⟩
  | tuple =>
    refine ⟨_, call_tuple_of, fun F H vs ds Qv Q hds hw k => ?_⟩
    unfold Bf.w at hw
    split at hw <;> first | (rename_i hb; cases hb) | skip
    all_goals first | exact hw.elim | skip
    · obtain ⟨v, rfl, hd⟩ := hds.one
      obtain ⟨a, xs, rfl, ha, fa, hx⟩ := hd.isL
      exact ⟨a, xs, rfl, .inl ⟨.of ha, fun p hp => k _ _ _ _ (.new_tup hp) (.tup (.of upd_same) (hx.later hs (later_tup hp))) hw⟩⟩
    · obtain ⟨v, rfl, hd⟩ := hds.one
      obtain ⟨a, xs, e, ha, hx⟩ := hd.isT
      subst e
      exact ⟨a, xs, rfl, .inr ⟨by rw [hK]; exact ha, k _ _ F H .refl hd hw⟩⟩
  | all =>
    refine ⟨_, cr_all hc, fun F H vs ds Qv Q hds hw k => ?_⟩
    unfold Bf.w at hw
    split at hw <;> first | (rename_i hb; cases hb) | skip
    all_goals first | exact hw.elim | skip
    obtain ⟨bs, e, q⟩ := hw
    obtain ⟨v, rfl, hd⟩ := hds.one
    obtain ⟨a, xs, rfl, ha, fa, hx⟩ := hd.isL
    have e2 := hx.bls e
    subst e2
    exact ⟨a, bs, rfl, .of ha, k _ _ F H .refl (.bl _) q⟩
  | any =>
    refine ⟨_, cr_any hc, fun F H vs ds Qv Q hds hw k => ?_⟩
    unfold Bf.w at hw
    split at hw <;> first | (rename_i hb; cases hb) | skip
    all_goals first | exact hw.elim | skip
    obtain ⟨bs, e, q⟩ := hw
    obtain ⟨v, rfl, hd⟩ := hds.one
    obtain ⟨a, xs, rfl, ha, fa, hx⟩ := hd.isL
    have e2 := hx.bls e
    subst e2
    exact ⟨a, bs, rfl, .of ha, k _ _ F H .refl (.bl _) q⟩
  | sum =>
    refine ⟨_, cr_sumT hc, fun F H vs ds Qv Q hds hw k => ?_⟩
    unfold Bf.w at hw
    split at hw <;> first | (rename_i hb; cases hb) | skip
    all_goals first | exact hw.elim | skip
    · obtain ⟨bs, e, q⟩ := hw
      obtain ⟨v, rfl, hd⟩ := hds.one
      obtain ⟨a, xs, rfl, ha, fa, hx⟩ := hd.isL
      have e2 := hx.ints e
      subst e2
      exact ⟨a, bs, rfl, .inl (.of ha), k _ _ F H .refl (.int _) q⟩
    · obtain ⟨bs, e, q⟩ := hw
      obtain ⟨v, rfl, hd⟩ := hds.one
      obtain ⟨a, xs, rfl, ha, hx⟩ := hd.isT
      have e2 := hx.ints e
      subst e2
      exact ⟨a, bs, rfl, .inr (by rw [hK]; exact ha), k _ _ F H .refl (.int _) q⟩
  | max2 =>
    refine ⟨_, call_max2 hc, fun F H vs ds Qv Q hds hw k => ?_⟩
    unfold Bf.w at hw
    split at hw <;> first | (rename_i hb; cases hb) | skip
    all_goals first | exact hw.elim | skip
    obtain ⟨v, v', rfl, hd, hd'⟩ := hds.two
    rw [hd.int_eq, hd'.int_eq]
    exact ⟨_, _, rfl, k _ _ F H .refl (.int _) hw⟩
  | min2 =>
    refine ⟨_, call_min2 hc, fun F H vs ds Qv Q hds hw k => ?_⟩
    unfold Bf.w at hw
    split at hw <;> first | (rename_i hb; cases hb) | skip
    all_goals first | exact hw.elim | skip
    obtain ⟨v, v', rfl, hd, hd'⟩ := hds.two
    rw [hd.int_eq, hd'.int_eq]
    exact ⟨_, _, rfl, k _ _ F H .refl (.int _) hw⟩
  | repr =>
    refine ⟨_, call_repr hK hgd hu, fun F H vs ds Qv Q hds hw k => ?_⟩
    unfold Bf.w at hw
    split at hw <;> first | (rename_i hb; cases hb) | skip
    all_goals first | exact hw.elim | skip
    obtain ⟨v, rfl, hd⟩ := hds.one
    exact ⟨F, v, _, rfl, hd, hw.1, k _ _ F H .refl (.str _) hw.2⟩
  | str =>
    refine ⟨_, call_str hK hgd hu, fun F H vs ds Qv Q hds hw k => ?_⟩
    unfold Bf.w at hw
    split at hw <;> first | (rename_i hb; cases hb) | skip
    all_goals first | exact hw.elim | skip
    · obtain ⟨v, rfl, hd⟩ := hds.one
      rw [hd.str_eq]
      exact .inl ⟨_, rfl, k _ _ F H .refl (.str _) hw⟩
    · rename_i d hn
      obtain ⟨v, rfl, hd⟩ := hds.one
      exact .inr ⟨F, v, d, rfl, hd, fun x z => hn x (by rw [z]), hw.1, k _ _ F H .refl (.str _) hw.2⟩
section
variable {X : Cx} {C : Ctx} {W : WX} {e : Expr} {es : List Expr} {ws : WA} {p pos : Pos}
theorem ve_bf (hs : SrcStays C) (hK : X.K = C.K) (hc : X.calm = true) (hgd : X.A.guards = some []) (hu : X.A.units + 64 < cLine) (b : Bf) (hg : Gl X b.name) (hm : X.mg b.name = none) (ha : PA X (e :: es) (cA C W ws))
    (he : starEach (e :: es) X.env = (false, eval e X.env) :: starEach es X.env) (hpl : (backTo pos (starEach es X.env)).any (·.1) = false) :
    PE X (.Call (.Name b.name p) (e :: es) [] pos) (cE C W fun ρ Q E => ws ρ (fun ds => b.w ds Q) E) := by
  obtain ⟨r, hr, hd⟩ := bf_ok (X := X) hs hK hc hgd hu b
  have hv : bootBuiltins b.name = some b.val := boot_of
  have hn : b.name ≠ "__name__" := by cases b <;> decide +kernel
  have hdb : (b.name == ("__debug__" : Str)) = false := by cases b <;> decide +kernel
  have main : ∀ (id : String), b.val = .builtin id → PE X (.Call (.Name b.name p) (e :: es) [] pos) (cE C W fun ρ Q E => ws ρ (fun ds => b.w ds Q) E) := fun id hi =>
    (pe_callB (by rw [← hi]; exact hr) hg hm (by rw [hv, hi]) ha hn hdb he hpl).imp fun _ _ _ h => tCB_c hd h
  have mainT : ∀ (id : String), b.val = .type id → PE X (.Call (.Name b.name p) (e :: es) [] pos) (cE C W fun ρ Q E => ws ρ (fun ds => b.w ds Q) E) := fun id hi =>
    (pe_callTy (by rw [← hi]; exact hr) hg hm (by rw [hv, hi]) ha hn hdb he hpl).imp fun _ _ _ h => tCB_c hd h
  cases b with
  | len => exact main _ rfl
  | abs => exact main _ rfl
  | int => exact mainT _ rfl
  | list => exact mainT _ rfl
  | tuple => exact mainT _ rfl
  | all => exact main _ rfl
  | any => exact main _ rfl
  | sum => exact main _ rfl
  | max2 => exact main _ rfl
  | min2 => exact main _ rfl
  | repr => exact main _ rfl
  | str => exact mainT _ rfl
end
end L3

/-! L3f: what is kept, once more; statements. -/
namespace L3
open PySem PySem.Spec PyProof.Rows L2

section
variable {C : Ctx} {F F' : Addr → Prop} {H H' : Hp}
theorem mem_kids_lst {a b : Addr} {xs : List V} (h : H a = some (.lst xs)) (m : V.ref b ∈ xs) : b ∈ kids H a := by
  unfold kids
  rw [h]
  exact List.mem_filterMap.mpr ⟨_, m, rfl⟩
theorem mem_kids_dK {a b : Addr} {xs : List (Key × V)} (h : H a = some (.dK xs)) (m : V.ref b ∈ xs.map (·.2)) : b ∈ kids H a := by
  unfold kids
  rw [h]
  obtain ⟨p, hp, e⟩ := List.mem_map.mp m
  exact List.mem_filterMap.mpr ⟨p, hp, by rw [e]; rfl⟩
theorem mem_kids_dT {a b : Addr} {xs : List (List Key × V)} (h : H a = some (.dT xs)) (m : V.ref b ∈ xs.map (·.2)) : b ∈ kids H a := by
  unfold kids
  rw [h]
  obtain ⟨p, hp, e⟩ := List.mem_map.mp m
  exact List.mem_filterMap.mpr ⟨p, hp, by rw [e]; rfl⟩
/-- own things that were not written, and that nobody else took -/
theorem OwnAt.keep (hs : SrcStays C) (l : Later F H F' H') : ∀ {k : Nat} {a : Addr} {d : T}, OwnAt C H F k a d → (∀ b ∈ owned H k a, H' b = H b ∧ ¬ F' b) → OwnAt C H' F' k a d
  | 0, _, _, h, _ => h
  | 1, a, d, h, hk => by
    have ha := hk a List.mem_cons_self
    exact ⟨ha.2, h.2.imp ha.1 fun xs ds r => r.later hs l⟩
  | k + 2, a, d, h, hk => by
    have ha := hk a List.mem_cons_self
    have sub : ∀ b, b ∈ kids H a → ∀ c ∈ owned H (k + 1) b, H' c = H c ∧ ¬ F' c := fun b hb c hc => hk c (List.mem_cons_of_mem _ (List.mem_flatMap.mpr ⟨b, hb, hc⟩))
    refine ⟨ha.2, ?_⟩
    rcases h.2 with ⟨xs, ds, e1, e2, r⟩ | ⟨xs, ds, e1, e2, r⟩ | ⟨xs, ds, e1, e2, r⟩
    · exact .inl ⟨xs, ds, e1, ha.1.trans e2, r.imp fun b d m q => OwnAt.keep hs l q (sub b (mem_kids_lst e2 m))⟩
    · exact .inr (.inl ⟨xs, ds, e1, ha.1.trans e2, r.imp fun b d m q => OwnAt.keep hs l q (sub b (mem_kids_dK e2 m))⟩)
    · exact .inr (.inr ⟨xs, ds, e1, ha.1.trans e2, r.imp fun b d m q => OwnAt.keep hs l q (sub b (mem_kids_dT e2 m))⟩)
theorem owned_keep : ∀ {k : Nat} {a : Addr}, (∀ b ∈ owned H k a, H' b = H b) → owned H' k a = owned H k a
  | 0, _, _ => rfl
  | 1, _, _ => rfl
  | k + 2, a, hk => by
    have ha := hk a List.mem_cons_self
    have e : kids H' a = kids H a := by unfold kids; rw [ha]
    show a :: (kids H' a).flatMap (owned H' (k + 1)) = a :: (kids H a).flatMap (owned H (k + 1))
    rw [e]
    congr 1
    have : ∀ l : List Addr, (∀ c ∈ l, ∀ b ∈ owned H (k + 1) c, H' b = H b) → l.flatMap (owned H' (k + 1)) = l.flatMap (owned H (k + 1)) := by
      intro l
      induction l with
      | nil => intro _; rfl
      | cons c l ih =>
        intro hc
        rw [List.flatMap_cons, List.flatMap_cons, owned_keep (hc c List.mem_cons_self), ih fun c' m => hc c' (List.mem_cons_of_mem _ m)]
    exact this _ fun c hc b hb => hk b (List.mem_cons_of_mem _ (List.mem_flatMap.mpr ⟨c, hc, hb⟩))
theorem ownI_keep {ρ : Rho} {σ : L2.St} {i : Nat} (hk : ∀ b ∈ ownI H ρ σ i, H' b = H b) : ownI H' ρ σ i = ownI H ρ σ i := by
  unfold ownI ownS at *
  split at hk
  · exact owned_keep hk
  · rfl
theorem ownI_own {ρ : Rho} {σ : L2.St} {i k : Nat} {d : T} {a : Addr} (h : ρ[i]? = some (.own k d)) (e : σ.getD i none = some (.ref a)) : ownI H ρ σ i = owned H k a := by
  unfold ownI
  rw [List.getD_eq_getElem?_getD, h, e]
  rfl
/-- the state goes on: no own thing is written -/
theorem RelS.keep {ρ : Rho} {σ : L2.St} (hs : SrcStays C) (l : Later F H F' H') (r : RelS C F H ρ σ) (hk : ∀ i b, b ∈ ownI H ρ σ i → H' b = H b ∧ ¬ F' b) (hd : ∀ b, F' b → ∃ o, H' b = some o) (ht : ∀ p ∈ C.tabs, LamX.TabS H' p.1 p.2) : RelS C F' H' ρ σ := by
  have e : ∀ i, ownI H' ρ σ i = ownI H ρ σ i := fun i => ownI_keep fun b hb => (hk i b hb).1
  refine ⟨r.len, fun i s hi => ?_, fun i j b h1 h2 => r.apart i j b (by rwa [e] at h1) (by rwa [e] at h2), fun i => by rw [e]; exact r.nodup i, fun i b hb => ?_, hd, ht⟩
  · have q := r.slot i s hi
    cases s with
    | un => trivial
    | sh d => obtain ⟨v, e, h⟩ := q; exact ⟨v, e, h.later hs l⟩
    | own k d =>
      obtain ⟨a, e, h⟩ := q
      refine ⟨a, e, h.keep hs l fun b hb => hk i b ?_⟩
      rw [ownI_own hi e]
      exact hb
  · rw [e] at hb
    obtain ⟨h1, o, ho, lo⟩ := r.live i b hb
    exact ⟨(hk i b hb).2, o, (hk i b hb).1.trans ho, lo⟩
theorem getD_set_self {α : Type} {l : List α} {i : Nat} {x d : α} (h : i < l.length) : (l.set i x).getD i d = x := by
  rw [List.getD_eq_getElem?_getD, List.getElem?_set_self h]; rfl
theorem getD_set_ne {α : Type} {l : List α} {i j : Nat} {x d : α} (h : i ≠ j) : (l.set i x).getD j d = l.getD j d := by
  rw [List.getD_eq_getElem?_getD, List.getElem?_set_ne h, ← List.getD_eq_getElem?_getD]
theorem getD_set_out {α : Type} {l : List α} {i : Nat} {x : α} (h : l.length ≤ i) : l.set i x = l := List.set_eq_of_length_le h
/-- what slot i held is forgotten -/
theorem RelS.forget {ρ : Rho} {σ : L2.St} (r : RelS C F H ρ σ) (i : Nat) (x : Option V) : RelS C F H (ρ.set i .un) (σ.set i x) := by
  have e : ∀ j b, b ∈ ownI H (ρ.set i .un) (σ.set i x) j → j ≠ i ∧ b ∈ ownI H ρ σ j := fun j b hb => by
    by_cases hj : j = i
    · subst hj
      exfalso
      unfold ownI at hb
      by_cases hl : j < ρ.length
      · rw [getD_set_self hl] at hb
        cases hb
      · rw [getD_set_out (Nat.le_of_not_lt hl), List.getD_eq_getElem?_getD, List.getElem?_eq_none (Nat.le_of_not_lt hl)] at hb
        cases hb
    · refine ⟨hj, ?_⟩
      unfold ownI at hb
      rw [getD_set_ne (Ne.symm hj), getD_set_ne (Ne.symm hj)] at hb
      exact hb
  refine ⟨by simpa using r.len, fun j s hs => ?_, fun j j' b h1 h2 => r.apart j j' b (e j b h1).2 (e j' b h2).2, fun j => ?_, fun j b hb => r.live j b (e j b hb).2, r.dom, r.tabs⟩
  · by_cases hj : j = i
    · subst hj
      have : s = .un := by
        rw [List.getElem?_set] at hs
        split at hs
        · split at hs
          · exact (Option.some.inj hs).symm
          · cases hs
        · rename_i z; exact absurd rfl z
      subst this
      trivial
    · rw [List.getElem?_set_ne (Ne.symm hj)] at hs
      rw [getD_set_ne (Ne.symm hj)]
      exact r.slot j s hs
  · by_cases hj : j = i
    · subst hj
      have : ownI H (ρ.set j .un) (σ.set j x) j = [] := by
        cases q : ownI H (ρ.set j .un) (σ.set j x) j with
        | nil => rfl
        | cons b l => exact absurd rfl (e j b (by rw [q]; exact List.mem_cons_self)).1
      rw [this]
      exact List.nodup_nil
    · have : ownI H (ρ.set i .un) (σ.set i x) j = ownI H ρ σ j := by
        unfold ownI
        rw [getD_set_ne (Ne.symm hj), getD_set_ne (Ne.symm hj)]
      rw [this]
      exact r.nodup j
/-- a shared tree into slot i -/
theorem RelS.setSh {ρ : Rho} {σ : L2.St} (r : RelS C F H ρ σ) {i : Nat} {v : V} {d : T} (h : D C H F v d) : RelS C F H (ρ.set i (.sh d)) (σ.set i (some v)) := by
  have q := r.forget i (some v)
  have e : ∀ j, ownI H (ρ.set i (.sh d)) (σ.set i (some v)) j = ownI H (ρ.set i .un) (σ.set i (some v)) j := fun j => by
    unfold ownI
    by_cases hj : i = j
    · subst hj
      by_cases hl : i < ρ.length
      · rw [getD_set_self hl, getD_set_self hl]; rfl
      · rw [getD_set_out (Nat.le_of_not_lt hl), getD_set_out (Nat.le_of_not_lt hl)]
    · rw [getD_set_ne hj, getD_set_ne hj, getD_set_ne hj]
  refine ⟨by simpa using r.len, fun j s hs => ?_, fun j j' b h1 h2 => q.apart j j' b (by rwa [e] at h1) (by rwa [e] at h2), fun j => by rw [e]; exact q.nodup j, fun j b hb => q.live j b (by rwa [e] at hb), r.dom, r.tabs⟩
  by_cases hj : i = j
  · subst hj
    by_cases hl : i < ρ.length
    · rw [List.getElem?_set_self hl] at hs
      cases hs
      rw [getD_set_self (by rw [← r.len]; exact hl)]
      exact ⟨v, rfl, h⟩
    · rw [List.getElem?_eq_none (by simpa using hl)] at hs
      cases hs
  · rw [List.getElem?_set_ne hj] at hs
    rw [getD_set_ne hj]
    exact r.slot j s hs
/-- an own thing into slot i -/
theorem RelS.setOwn {ρ : Rho} {σ : L2.St} (r : RelS C F H ρ σ) {i k : Nat} {a : Addr} {d : T} (h : OwnAt C H F k a d) (nd : (owned H k a).Nodup) (lv : ∀ b ∈ owned H k a, ¬ F b ∧ ∃ o, H b = some o ∧ LD o)
    (ap : ∀ j b, j ≠ i → b ∈ ownI H ρ σ j → b ∉ owned H k a) : RelS C F H (ρ.set i (.own k d)) (σ.set i (some (.ref a))) := by
  by_cases hl : i < ρ.length
  · have q := r.forget i (some (.ref a))
    have e1 : ownI H (ρ.set i (.own k d)) (σ.set i (some (.ref a))) i = owned H k a := by
      unfold ownI
      rw [getD_set_self hl, getD_set_self (by rw [← r.len]; exact hl)]
      rfl
    have e2 : ∀ j, j ≠ i → ownI H (ρ.set i (.own k d)) (σ.set i (some (.ref a))) j = ownI H ρ σ j := fun j hj => by
      unfold ownI
      rw [getD_set_ne (Ne.symm hj), getD_set_ne (Ne.symm hj)]
    refine ⟨by simpa using r.len, fun j s hs => ?_, fun j j' b h1 h2 => ?_, fun j => ?_, fun j b hb => ?_, r.dom, r.tabs⟩
    · by_cases hj : i = j
      · subst hj
        rw [List.getElem?_set_self hl] at hs
        cases hs
        rw [getD_set_self (by rw [← r.len]; exact hl)]
        exact ⟨a, rfl, h⟩
      · rw [List.getElem?_set_ne hj] at hs
        rw [getD_set_ne hj]
        exact r.slot j s hs
    · by_cases hj : j = i
      · subst hj
        by_cases hj' : j' = j
        · exact hj'.symm
        · rw [e1] at h1
          rw [e2 j' hj'] at h2
          exact absurd h1 (ap j' b hj' h2)
      · by_cases hj' : j' = i
        · subst hj'
          rw [e2 j hj] at h1
          rw [e1] at h2
          exact absurd h2 (ap j b hj h1)
        · rw [e2 j hj] at h1
          rw [e2 j' hj'] at h2
          exact r.apart j j' b h1 h2
    · by_cases hj : j = i
      · subst hj; rw [e1]; exact nd
      · rw [e2 j hj]; exact r.nodup j
    · by_cases hj : j = i
      · subst hj; rw [e1] at hb; exact lv b hb
      · rw [e2 j hj] at hb; exact r.live j b hb
  · have h1 : ρ.set i (.own k d) = ρ := getD_set_out (Nat.le_of_not_lt hl)
    have h2 : σ.set i (some (.ref a)) = σ := getD_set_out (by rw [← r.len]; exact Nat.le_of_not_lt hl)
    rw [h1, h2]
    exact r
/-- a table stays where a list is written -/
theorem tabS_write {P a : Addr} {q : Str} {o o' : HO} (t : LamX.TabS H P q) (h : H a = some o) (lo : LD o) : LamX.TabS (upd H a o') P q := by
  obtain ⟨ps, h1, h2, h3⟩ := t
  refine ⟨ps, by rw [upd_ne (fun z => by subst z; rw [h] at h1; cases h1; exact lo)]; exact h1, h2, fun pos cv hc => ?_⟩
  obtain ⟨c, e1, e2⟩ := h3 pos cv hc
  exact ⟨c, e1, by rw [upd_ne (fun z => by subst z; rw [h] at e2; cases e2; exact lo)]; exact e2⟩
/-- a write to an own list or dict -/
theorem Later.write {a : Addr} {o o' : HO} (hf : ¬ F a) (h : H a = some o) (lo : LD o) : Later F H F (upd H a o') := by
  refine ⟨fun b u nl _ r => ?_, fun b u fb _ e => ?_, fun _ z => z⟩
  · have hb : b ≠ a := fun z => by
      subst z
      rw [h] at r; cases r; exact nl lo
    rw [upd_ne hb]; exact r
  · have hb : b ≠ a := fun z => by subst z; exact hf fb
    rw [upd_ne hb]; exact e
end

/-! ### slots that may be read by others from now on -/
def frz1 (ρ : Rho) (i : Nat) : Rho :=
  match ρ[i]? with
  | some (.own _ d) => ρ.set i (.sh d)
  | _ => ρ
def frz (ρ : Rho) (l : List Nat) : Rho := l.foldl frz1 ρ
section
variable {C : Ctx} {F F' : Addr → Prop} {H H' : Hp}
theorem OwnAt.frozen (hs : SrcStays C) : ∀ {k : Nat} {a : Addr} {d : T} {F' : Addr → Prop}, OwnAt C H F k a d → (∀ b, F b → F' b) → (∀ b ∈ owned H k a, F' b) → D C H F' (.ref a) d
  | 0, _, _, _, h, _, _ => h.elim
  | 1, a, d, F', h, hf, ho => by
    have l : Later F H F' H := ⟨fun _ _ _ _ z => z, fun _ _ _ _ z => z, hf⟩
    have ha := ho a List.mem_cons_self
    rcases h.2 with ⟨xs, ds, e1, e2, r⟩ | ⟨xs, ds, e1, e2, r⟩ | ⟨xs, ds, e1, e2, r⟩
    · subst e1; exact .lst e2 ha (r.later hs l)
    · subst e1; exact .dctK e2 ha (r.later hs l)
    · subst e1; exact .dctT e2 ha (r.later hs l)
  | k + 2, a, d, F', h, hf, ho => by
    have ha := ho a List.mem_cons_self
    have sub : ∀ b, b ∈ kids H a → ∀ c ∈ owned H (k + 1) b, F' c := fun b hb c hc => ho c (List.mem_cons_of_mem _ (List.mem_flatMap.mpr ⟨b, hb, hc⟩))
    have go : ∀ {vs : List V} {ds : List T}, OwnL (OwnAt C H F (k + 1)) vs ds → (∀ b, V.ref b ∈ vs → b ∈ kids H a) → Ds C H F' vs ds := by
      intro vs ds r
      induction r with
      | nil => intro _; exact .nil
      | cons h1 _ ih =>
        intro hm
        exact .cons (OwnAt.frozen hs h1 hf (sub _ (hm _ List.mem_cons_self))) (ih fun b m => hm b (List.mem_cons_of_mem _ m))
    rcases h.2 with ⟨xs, ds, e1, e2, r⟩ | ⟨xs, ds, e1, e2, r⟩ | ⟨xs, ds, e1, e2, r⟩
    · subst e1; exact .lst e2 ha (go r fun b m => mem_kids_lst e2 m)
    · subst e1; exact .dctK e2 ha (go r fun b m => mem_kids_dK e2 m)
    · subst e1; exact .dctT e2 ha (go r fun b m => mem_kids_dT e2 m)
theorem RelS.frz1 {ρ : Rho} {σ : L2.St} (hs : SrcStays C) (r : RelS C F H ρ σ) (i : Nat) : ∃ F', (∀ b, F b → F' b) ∧ (∀ b, F' b → F b ∨ ∃ j, b ∈ ownI H ρ σ j) ∧ RelS C F' H (L3.frz1 ρ i) σ ∧ (∀ j b, b ∈ ownI H (L3.frz1 ρ i) σ j → b ∈ ownI H ρ σ j) := by
  unfold L3.frz1
  split
  · rename_i k d hi
    obtain ⟨a, ea, ho⟩ := r.slot i _ hi
    have oi : ownI H ρ σ i = owned H k a := ownI_own hi ea
    have hlt : i < ρ.length := (List.getElem?_eq_some_iff.mp hi).1
    have hlt' : i < σ.length := by rw [← r.len]; exact hlt
    have es : σ.set i (some (.ref a)) = σ := by
      have e2 : σ[i]? = some (some (.ref a)) := by
        rw [List.getD_eq_getElem?_getD, List.getElem?_eq_getElem hlt'] at ea
        rw [List.getElem?_eq_getElem hlt']
        exact congrArg some ea
      refine List.ext_getElem? fun j => ?_
      by_cases hj : i = j
      · subst hj; rw [List.getElem?_set_self hlt', e2]
      · rw [List.getElem?_set_ne hj]
    let F' : Addr → Prop := fun b => F b ∨ b ∈ owned H k a
    have l : Later F H F' H := ⟨fun _ _ _ _ z => z, fun _ _ _ _ z => z, fun _ z => .inl z⟩
    have f1 := r.forget i (some (.ref a))
    rw [es] at f1
    have own' : ∀ j b, b ∈ ownI H (ρ.set i .un) σ j → j ≠ i ∧ b ∈ ownI H ρ σ j := fun j b hb => by
      by_cases hj : j = i
      · subst hj
        unfold ownI at hb
        rw [getD_set_self hlt] at hb
        cases hb
      · refine ⟨hj, ?_⟩
        unfold ownI at hb ⊢
        rw [getD_set_ne (Ne.symm hj)] at hb
        exact hb
    have f2 : RelS C F' H (ρ.set i .un) σ := f1.keep hs l (fun j b hb => ⟨rfl, fun z => by
      obtain ⟨hj, hb'⟩ := own' j b hb
      rcases z with z | z
      · exact (r.live j b hb').1 z
      · exact hj (r.apart j i b hb' (by rw [oi]; exact z))⟩) (fun b z => z.elim (r.dom b) fun m => by
        obtain ⟨_, o, ho, _⟩ := r.live i b (by rw [oi]; exact m)
        exact ⟨o, ho⟩) r.tabs
    have f3 := f2.setSh (i := i) (v := .ref a) (d := d) (ho.frozen hs (fun _ z => .inl z) fun _ z => .inr z)
    rw [es, List.set_set] at f3
    refine ⟨F', fun _ z => .inl z, fun b z => z.imp id fun m => ⟨i, by rw [oi]; exact m⟩, f3, fun j b hb => ?_⟩
    by_cases hj : j = i
    · subst hj
      unfold ownI at hb
      rw [getD_set_self hlt] at hb
      cases hb
    · unfold ownI at hb ⊢
      rw [getD_set_ne (Ne.symm hj)] at hb
      exact hb
  · exact ⟨F, fun _ z => z, fun _ z => .inl z, r, fun _ _ z => z⟩
theorem RelS.frz {σ : L2.St} (hs : SrcStays C) (l : List Nat) : ∀ {ρ : Rho} {F : Addr → Prop}, RelS C F H ρ σ → ∃ F', (∀ b, F b → F' b) ∧ (∀ b, F' b → F b ∨ ∃ j, b ∈ ownI H ρ σ j) ∧ RelS C F' H (L3.frz ρ l) σ ∧ (∀ j b, b ∈ ownI H (L3.frz ρ l) σ j → b ∈ ownI H ρ σ j) := by
  induction l with
  | nil => intro ρ F r; exact ⟨F, fun _ z => z, fun _ z => .inl z, r, fun _ _ z => z⟩
  | cons i l ih =>
    intro ρ F r
    obtain ⟨F1, a1, a2, r1, a3⟩ := r.frz1 hs i
    obtain ⟨F2, b1, b2, r2, b3⟩ := ih r1
    refine ⟨F2, fun b z => b1 b (a1 b z), fun b z => ?_, r2, fun j b z => a3 j b (b3 j b z)⟩
    rcases b2 b z with q | ⟨j, q⟩
    · exact a2 b q
    · exact .inr ⟨j, a3 j b q⟩
end
end L3

/-! L3g: statements. -/
namespace L3
open PySem PySem.Spec PyProof.Rows L2

/-- from (F0, H0) on nothing is written but what is of P (or new, or a table) -/
structure Base (C : Ctx) (P : Addr → Prop) (F0 : Addr → Prop) (H0 : Hp) (F : Addr → Prop) (H : Hp) : Prop where
  same : ∀ b o, H0 b = some o → ¬ P b → NT o → H b = some o
  fz : ∀ b, F0 b → F b
  new : ∀ b, F b → F0 b ∨ H0 b = none ∨ P b
  trk : ∀ b o, H0 b = some o → ¬ P b → ∃ o', H b = some o'
  tab : ∀ p ∈ C.tabs, LamX.TabS H0 p.1 p.2 → LamX.TabS H p.1 p.2
variable {C : Ctx}
theorem Base.refl {P F : Addr → Prop} {H : Hp} : Base C P F H F H := ⟨fun _ _ h _ _ => h, fun _ h => h, fun _ h => .inl h, fun _ o h _ => ⟨o, h⟩, fun _ _ t => t⟩
theorem Base.none {P F0 F : Addr → Prop} {H0 H : Hp} (a : Base C P F0 H0 F H) {b : Addr} (h : H b = none) : H0 b = none ∨ P b := by
  cases e : H0 b with
  | none => exact .inl rfl
  | some o =>
    refine .inr (Classical.byContradiction fun n => ?_)
    obtain ⟨o', h'⟩ := a.trk b o e n
    rw [h] at h'; cases h'
theorem Base.ext {P F0 F F' : Addr → Prop} {H0 H H' : Hp} (a : Base C P F0 H0 F H) (x : Ext C F H F' H') : Base C P F0 H0 F' H' :=
  ⟨fun b o h n nt => x.same b o (a.same b o h n nt) nt, fun b h => x.fz b (a.fz b h), fun b h => by
    rcases x.new b h with z | ⟨z, _⟩
    · exact a.new b z
    · exact .inr (a.none z), fun b o h n => (a.trk b o h n).elim fun o' h' => x.trk b o' h', fun p q t => x.tab p q (a.tab p q t)⟩
theorem Base.toExt {F0 F : Addr → Prop} {H0 H : Hp} (a : Base C (fun _ => False) F0 H0 F H) (d : ∀ b, F b → ∃ o, H b = some o) : Ext C F0 H0 F H :=
  ⟨fun b o h nt => a.same b o h (fun z => z) nt, a.fz, fun b h => (a.new b h).imp id fun z => ⟨z.elim id False.elim, d b h⟩, fun b o h => a.trk b o h fun z => z, a.tab⟩

/-- what is wanted behind a statement, by trees; rt: k = 0 a shared tree, k above 0 an own one -/
structure Dv where
  nx : Rho → Prop
  rt : Nat → T → Prop
  bk : Rho → Prop := fun _ => False
  ct : Rho → Prop := fun _ => False
  ex : Rho → Ex → Prop := fun _ _ => False
abbrev WS := Rho → Dv → Prop

structure St (C : Ctx) (P F0 : Addr → Prop) (H0 : Hp) (F : Addr → Prop) (H : Hp) (ρ : Rho) (σ : L2.St) : Prop where
  rel : RelS C F H ρ σ
  base : Base C P F0 H0 F H
  mine : ∀ i b, b ∈ ownI H ρ σ i → H0 b = none ∨ P b
structure Out (C : Ctx) (W : WX) (P F0 : Addr → Prop) (H0 : Hp) (Dv : Dv) (N : Ends) : Prop where
  nx : ∀ ρ σ F H, St C P F0 H0 F H ρ σ → Dv.nx ρ → N.nx σ H
  bk : ∀ ρ σ F H, St C P F0 H0 F H ρ σ → Dv.bk ρ → N.bk σ H
  ct : ∀ ρ σ F H, St C P F0 H0 F H ρ σ → Dv.ct ρ → N.ct σ H
  r0 : ∀ v d F H, Base C P F0 H0 F H → (∀ b, F b → ∃ o, H b = some o) → D C H F v d → Dv.rt 0 d → N.rt v H
  rk : ∀ k a d F H, Base C P F0 H0 F H → (∀ b, F b → ∃ o, H b = some o) → OwnAt C H F (k + 1) a d → (owned H (k + 1) a).Nodup → (∀ b ∈ owned H (k + 1) a, (H0 b = none ∨ P b) ∧ ¬ F b ∧ ∃ o, H b = some o ∧ LD o) → Dv.rt (k + 1) d → N.rt (.ref a) H
  ex : ∀ cls dx ρ σ F H x, St C P F0 H0 F H ρ σ → ExR C F H cls dx x → Dv.ex ρ x → W cls dx σ H
def cS (C : Ctx) (W : WX) (w : WS) : TS := fun D σ H => ∃ P F0 H0 F ρ Dv, St C P F0 H0 F H ρ σ ∧ w ρ Dv ∧ Out C W P F0 H0 Dv D

section
variable {C : Ctx} {W : WX} {P F0 F F' : Addr → Prop} {H0 H H' : Hp} {ρ : Rho} {σ : L2.St}
theorem ownI_exts (r : RelS C F H ρ σ) (x : Ext C F H F' H') (i : Nat) : ownI H' ρ σ i = ownI H ρ σ i := ownI_ext (fun b o h l => x.same b o h l.nt) i fun b hb => (r.live i b hb).2
theorem St.ext (hs : SrcStays C) (s : St C P F0 H0 F H ρ σ) (x : Ext C F H F' H') : St C P F0 H0 F' H' ρ σ :=
  ⟨s.rel.ext hs x, s.base.ext x, fun i b hb => s.mine i b (by rwa [ownI_exts s.rel x] at hb)⟩
theorem St.back {F1 F2 : Addr → Prop} {H2 : Hp} (hs : SrcStays C) (s : St C P F0 H0 F H ρ σ) (x : Ext C F1 H F2 H2) : St C P F0 H0 F H2 ρ σ := s.ext hs ⟨x.same, fun _ z => z, fun _ z => .inl z, x.trk, x.tab⟩
theorem St.frz (hs : SrcStays C) (s : St C P F0 H0 F H ρ σ) (l : List Nat) : ∃ F', St C P F0 H0 F' H (L3.frz ρ l) σ := by
  obtain ⟨F', a1, a2, r, a3⟩ := s.rel.frz hs l
  refine ⟨F', r, ⟨s.base.same, fun b h => a1 b (s.base.fz b h), fun b h => ?_, s.base.trk, s.base.tab⟩, fun i b hb => s.mine i b (a3 i b hb)⟩
  rcases a2 b h with z | ⟨j, z⟩
  · exact s.base.new b z
  · exact .inr (s.mine j b z)
theorem St.setSh (s : St C P F0 H0 F H ρ σ) {i : Nat} {v : V} {d : T} (h : D C H F v d) : St C P F0 H0 F H (ρ.set i (.sh d)) (σ.set i (some v)) := by
  refine ⟨s.rel.setSh h, s.base, fun j b hb => ?_⟩
  unfold ownI at hb
  by_cases hj : i = j
  · subst hj
    by_cases hl : i < ρ.length
    · rw [getD_set_self hl] at hb; cases hb
    · rw [getD_set_out (Nat.le_of_not_lt hl), getD_set_out (by rw [← s.rel.len]; exact Nat.le_of_not_lt hl)] at hb
      exact s.mine i b hb
  · rw [getD_set_ne hj, getD_set_ne hj] at hb
    exact s.mine j b hb
theorem St.setOwn (s : St C P F0 H0 F H ρ σ) {i k : Nat} {a : Addr} {d : T} (h : OwnAt C H F k a d) (nd : (owned H k a).Nodup) (lv : ∀ b ∈ owned H k a, ¬ F b ∧ (∃ o, H b = some o ∧ LD o) ∧ (H0 b = none ∨ P b))
    (ap : ∀ j b, j ≠ i → b ∈ ownI H ρ σ j → b ∉ owned H k a) : St C P F0 H0 F H (ρ.set i (.own k d)) (σ.set i (some (.ref a))) := by
  refine ⟨s.rel.setOwn h nd (fun b hb => ⟨(lv b hb).1, (lv b hb).2.1⟩) ap, s.base, fun j b hb => ?_⟩
  unfold ownI at hb
  by_cases hj : i = j
  · subst hj
    by_cases hl : i < ρ.length
    · rw [getD_set_self hl, getD_set_self (by rw [← s.rel.len]; exact hl)] at hb
      exact (lv b hb).2.2
    · rw [getD_set_out (Nat.le_of_not_lt hl), getD_set_out (by rw [← s.rel.len]; exact Nat.le_of_not_lt hl)] at hb
      exact s.mine i b hb
  · rw [getD_set_ne hj, getD_set_ne hj] at hb
    exact s.mine j b hb
/-- an exception out of an expression -/
theorem Out.exo {Dv : Dv} {D : Ends} (hs : SrcStays C) (o : Out C W P F0 H0 Dv D) (s : St C P F0 H0 F H ρ σ) : ExOut C W F H σ (Dv.ex ρ) :=
  fun cls dx F' H' x e r q => o.ex cls dx ρ σ F' H' x (s.ext hs e) r q
end

section
variable {X : Cx} {C : Ctx} {W : WX} {st : Stmt} {rest : List Stmt} {w w' : WS} {e : Expr} {we : WE} {pos : Pos}
theorem vss_nil : PSs X [] (cS C W fun ρ D => D.nx ρ) := pss_nil.imp fun D σ H ⟨P, F0, H0, F, ρ, Dv, s, q, o⟩ => o.nx ρ σ F H s q
theorem vss_cons (h1 : PS X st (cS C W w)) (h2 : PSs X rest (cS C W w')) : PSs X (st :: rest) (cS C W fun ρ D => w ρ { D with nx := fun ρ' => w' ρ' D }) :=
  (pss_cons h1 h2).imp fun D σ H ⟨P, F0, H0, F, ρ, Dv, s, q, o⟩ => ⟨P, F0, H0, F, ρ, _, s, q, ⟨fun ρ1 σ1 F1 H1 s1 q1 => ⟨P, F0, H0, F1, ρ1, Dv, s1, q1, o⟩, o.bk, o.ct, o.r0, o.rk, o.ex⟩⟩
theorem vs_pass : PS X (.Pass pos) (cS C W fun ρ D => D.nx ρ) := ps_pass.imp fun D σ H ⟨P, F0, H0, F, ρ, Dv, s, q, o⟩ => o.nx ρ σ F H s q
theorem vs_break : PS X (.Break pos) (cS C W fun ρ D => D.bk ρ) := ps_break.imp fun D σ H ⟨P, F0, H0, F, ρ, Dv, s, q, o⟩ => o.bk ρ σ F H s q
theorem vs_cont : PS X (.Continue pos) (cS C W fun ρ D => D.ct ρ) := ps_continue.imp fun D σ H ⟨P, F0, H0, F, ρ, Dv, s, q, o⟩ => o.ct ρ σ F H s q
theorem vs_never : PS X st (cS C W fun _ _ => False) := ⟨fun pins s σ H D I ⟨_, _, _, _, _, _, _, q, _⟩ => q.elim⟩
theorem vs_retN : PS X (.Return none pos) (cS C W fun _ D => D.rt 0 .non) := ps_retN.imp fun D σ H ⟨P, F0, H0, F, ρ, Dv, s, q, o⟩ => o.r0 .non .non F H s.base s.rel.dom .non q
/-- return e, whatever it is made of -/
theorem vs_ret (hs : SrcStays C) (l : List Nat) (he : PE X e (cE C W we)) : PS X (.Return (some e) pos) (cS C W fun ρ D => we (frz ρ l) (D.rt 0) (D.ex (frz ρ l))) :=
  (ps_ret he).imp fun D σ H ⟨P, F0, H0, F, ρ, Dv, s, q, o⟩ => by
    obtain ⟨F', s'⟩ := s.frz hs l
    exact ⟨F', _, _, _, s'.rel, q, fun v d F2 H2 x hd q2 => o.r0 v d F2 H2 (s'.base.ext x) (s'.rel.ext hs x).dom hd q2, o.exo hs s'⟩
/-- return name, a name of the frame's own -/
theorem vs_retOwn {i : Nat} {y : Expr} (hv : PE X y (tVar i)) : PS X (.Return (some y) pos) (cS C W fun ρ D => ∃ k d, ρ[i]? = some (.own (k + 1) d) ∧ D.rt (k + 1) d) :=
  (ps_ret hv).imp fun D σ H ⟨P, F0, H0, F, ρ, Dv, s, ⟨k, d, hi, q⟩, o⟩ => by
    obtain ⟨a, ea, ho⟩ := s.rel.slot i _ hi
    have oi : ownI H ρ σ i = owned H (k + 1) a := ownI_own hi ea
    have hlt : i < σ.length := by rw [← s.rel.len]; exact (List.getElem?_eq_some_iff.mp hi).1
    refine ⟨.ref a, ?_, ?_⟩
    · rw [List.getD_eq_getElem?_getD, List.getElem?_eq_getElem hlt] at ea
      rw [List.getElem?_eq_getElem hlt]
      exact congrArg some ea
    · refine o.rk k a d F H s.base s.rel.dom ho (by rw [← oi]; exact s.rel.nodup i) (fun b hb => ?_) q
      rw [← oi] at hb
      exact ⟨s.mine i b hb, s.rel.live i b hb⟩
/-- return e, e a new thing -/
theorem vs_retF (hs : SrcStays C) {k : Nat} (l : List Nat) (he : PE X e (cF C W (k + 1) we)) : PS X (.Return (some e) pos) (cS C W fun ρ D => we (frz ρ l) (D.rt (k + 1)) (D.ex (frz ρ l))) :=
  (ps_ret he).imp fun D σ H ⟨P, F0, H0, F, ρ, Dv, s, q, o⟩ => by
    obtain ⟨F', s'⟩ := s.frz hs l
    refine ⟨F', _, _, _, s'.rel, q, fun a d F2 H2 x ho nd lv q2 => o.rk k a d F2 H2 (s'.base.ext x) (s'.rel.ext hs x).dom ho nd (fun b hb => ?_) q2, o.exo hs s'⟩
    obtain ⟨h1, h2, h3⟩ := lv b hb
    exact ⟨s'.base.none h2, h1, h3⟩
/-- an expression whose value is dropped -/
theorem vs_expr (hs : SrcStays C) (l : List Nat) (he : PE X e (cE C W we)) (hw : swapsWith e none pos.line X.env = pure false) : PS X (.Expr e pos) (cS C W fun ρ D => we (frz ρ l) (fun _ => D.nx ρ) (D.ex (frz ρ l))) :=
  (ps_expr he hw).imp fun D σ H ⟨P, F0, H0, F, ρ, Dv, s, q, o⟩ => by
    obtain ⟨F', s'⟩ := s.frz hs l
    exact ⟨F', _, _, _, s'.rel, q, fun v d F2 H2 x hd q2 => o.nx _ σ F H2 (s.back hs x) q2, o.exo hs s'⟩
/-- target = e -/
abbrev WG := T → Rho → (Rho → Prop) → Prop
/-- a target that takes shared trees -/
def cG (C : Ctx) (vs : List Nat) (g : WG) : TG := fun v σ H Q => ∃ P F0 H0 F ρ d R, St C P F0 H0 F H ρ σ ∧ D C H F v d ∧ g d ρ R ∧ ∀ ρ' σ' F' H', St C P F0 H0 F' H' ρ' σ' → Ext C F H F' H' → wipe σ' vs = wipe σ vs → R ρ' → Q σ' H'
def cGs (C : Ctx) (is : List Nat) (g : List T → Rho → (Rho → Prop) → Prop) : TGs := fun vs σ H Q => ∃ P F0 H0 F ρ ds R, St C P F0 H0 F H ρ σ ∧ Ds C H F vs ds ∧ g ds ρ R ∧ ∀ ρ' σ' F' H', St C P F0 H0 F' H' ρ' σ' → Ext C F H F' H' → wipe σ' is = wipe σ is → R ρ' → Q σ' H'
theorem wipe_set {σ : L2.St} {i : Nat} {x : Option V} : ∀ {vs : List Nat}, i ∈ vs → wipe (σ.set i x) vs = wipe σ vs
  | [], h => nomatch h
  | v :: vs, h => by
    unfold wipe
    by_cases e : i ∈ vs
    · rw [wipe_set e]
    · have e2 : i = v := (List.mem_cons.mp h).resolve_right e
      subst e2
      have comm : ∀ {vs : List Nat} {σ : L2.St}, i ∉ vs → wipe (σ.set i x) vs = (wipe σ vs).set i x := by
        intro vs
        induction vs with
        | nil => intro _ _; rfl
        | cons w vs ih =>
          intro σ hn
          unfold wipe
          rw [ih fun m => hn (List.mem_cons_of_mem _ m), List.set_comm _ _ fun z => hn (by rw [z]; exact List.mem_cons_self)]
      rw [comm e, List.set_set]
theorem _root_.L2.PG.imp {X : Cx} {e : Expr} {t t' : TG} (h : PG X e t) (i : ∀ v σ H Q, t' v σ H Q → t v σ H Q) : PG X e t' := ⟨fun pins s σ H v u Q I r q => h.run pins s σ H v u Q I r (i v σ H Q q)⟩
theorem _root_.L2.PGs.imp {X : Cx} {e : List Expr} {t t' : TGs} (h : PGs X e t) (i : ∀ v σ H Q, t' v σ H Q → t v σ H Q) : PGs X e t' := ⟨fun pins s σ H v u Q I r q => h.run pins s σ H v u Q I r (i v σ H Q q)⟩
theorem vg_name {i : Nat} {y : Expr} {is : List Nat} (h : PG X y (gName i)) (hi : i ∈ is) : PG X y (cG C is fun d ρ R => R (ρ.set i (.sh d))) :=
  h.imp fun v σ H Q ⟨P, F0, H0, F, ρ, d, R, s, hd, q, k⟩ => k _ _ F H (s.setSh hd) .refl (wipe_set hi) q
theorem vgs_nil {is : List Nat} : PGs X [] (cGs C is fun ds ρ R => ds = [] ∧ R ρ) :=
  pgs_nil.imp fun v σ H Q ⟨P, F0, H0, F, ρ, ds, R, s, hd, ⟨e, q⟩, k⟩ => by
    subst e
    cases hd
    exact ⟨rfl, k _ _ F H s .refl rfl q⟩
theorem vgs_cons (hs : SrcStays C) {es : List Expr} {g : WG} {gs : List T → Rho → (Rho → Prop) → Prop} {is : List Nat} (h1 : PG X e (cG C is g)) (h2 : PGs X es (cGs C is gs)) (hh : (assignEach (e :: es) X.env).map (·.2) = assign e X.env :: (assignEach es X.env).map (·.2)) :
    PGs X (e :: es) (cGs C is fun ds ρ R => ∃ d r, ds = d :: r ∧ g d ρ fun ρ1 => gs r ρ1 R) :=
  (pgs_cons h1 h2 hh).imp fun v σ H Q ⟨P, F0, H0, F, ρ, ds, R, s, hd, ⟨d, r, e, q⟩, k⟩ => by
    subst e
    cases hd with
    | cons hd1 hd2 =>
      refine ⟨_, _, rfl, P, F0, H0, F, ρ, d, _, s, hd1, q, fun ρ1 σ1 F1 H1 s1 x1 w1 q1 => ?_⟩
      exact ⟨P, F0, H0, F1, ρ1, r, R, s1, hd2.later hs x1.later, q1, fun ρ2 σ2 F2 H2 s2 x2 w2 q2 => k ρ2 σ2 F2 H2 s2 (x1.trans x2) (w2.trans w1) q2⟩
/-- (a, b, ..) = a tuple -/
theorem vg_tup {es : List Expr} {k n : Nat} {gs : List T → Rho → (Rho → Prop) → Prop} (hK : X.K = C.K) (hc : X.calm = true) {is : List Nat} (h : PGs X es (cGs C is gs)) (hn : (assignEach es X.env).length = n) (hst : (assignEach es X.env).findIdx? (·.1) = none) :
    PG X (.Tuple es k pos) (cG C is fun d ρ R => ∃ ds, d = .tup ds ∧ ds.length = n ∧ gs ds ρ R) :=
  (pg_tup hc h hn hst).imp fun v σ H Q ⟨P, F0, H0, F, ρ, d, R, s, hd, ⟨ds, e, hl, q⟩, kk⟩ => by
    subst e
    obtain ⟨a, xs, rfl, ha, hx⟩ := hd.isT
    exact ⟨a, xs, rfl, by rw [hK]; exact ha, by rw [hx.length]; exact hl, P, F0, H0, F, ρ, ds, R, s, hx, q, kk⟩
theorem vs_asg (hs : SrcStays C) {tg : Expr} {g : WG} {is : List Nat} (l : List Nat) (he : PE X e (cE C W we)) (hg : PG X tg (cG C is g)) (h1 : swapsWithSole [tg] e pos.line X.env = pure false) (h2 : swappedStores [tg] e X.env = pure none)
    (h3 : (assignEach [tg] X.env).map (·.2) = [assign tg X.env]) : PS X (.Assign [tg] e pos) (cS C W fun ρ D => we (frz ρ l) (fun d => g d (frz ρ l) D.nx) (D.ex (frz ρ l))) :=
  (ps_asg he hg h1 h2 h3).imp fun D σ H ⟨P, F0, H0, F, ρ, Dv, s, q, o⟩ => by
    obtain ⟨F', s'⟩ := s.frz hs l
    exact ⟨F', _, _, _, s'.rel, q, fun v d F2 H2 x hd q2 => ⟨P, F0, H0, F2, _, d, _, s'.ext hs x, hd, q2, fun ρ3 σ3 F3 H3 s3 x3 w3 q3 => o.nx ρ3 σ3 F3 H3 s3 q3⟩, o.exo hs s'⟩
/-- name = e -/
theorem set_c (hs : SrcStays C) {i : Nat} (l : List Nat) {D : Ends} {σ : L2.St} {H : Hp} (h : cS C W (fun ρ D => we (frz ρ l) (fun d => D.nx ((frz ρ l).set i (.sh d))) (D.ex (frz ρ l))) D σ H) : tAsg (cE C W we) (gName i) D σ H := by
  obtain ⟨P, F0, H0, F, ρ, Dv, s, q, o⟩ := h
  obtain ⟨F', s'⟩ := s.frz hs l
  exact ⟨F', _, _, _, s'.rel, q, fun v d F2 H2 x hd q2 => o.nx _ _ F2 H2 ((s'.ext hs x).setSh hd) q2, o.exo hs s'⟩
/-- name = e, a new thing, to be written to -/
theorem setF_c (hs : SrcStays C) {i k : Nat} (l : List Nat) {D : Ends} {σ : L2.St} {H : Hp} (h : cS C W (fun ρ D => we (frz ρ l) (fun d => D.nx ((frz ρ l).set i (.own k d))) (D.ex (frz ρ l))) D σ H) : tAsg (cF C W k we) (gName i) D σ H := by
  obtain ⟨P, F0, H0, F, ρ, Dv, s, q, o⟩ := h
  obtain ⟨F', s'⟩ := s.frz hs l
  refine ⟨F', _, _, _, s'.rel, q, fun a d F2 H2 x ho nd lv q2 => ?_, o.exo hs s'⟩
  have s2 := s'.ext hs x
  refine o.nx _ _ F2 H2 (s2.setOwn ho nd (fun b hb => ?_) fun j b hj hb hb2 => ?_) q2
  · obtain ⟨h1, h2, h3⟩ := lv b hb
    exact ⟨h1, h3, s'.base.none h2⟩
  · rw [ownI_exts s'.rel x] at hb
    obtain ⟨_, ob, e, _⟩ := s'.rel.live j b hb
    rw [(lv b hb2).2.1] at e; cases e
/-- neither a list nor a tuple nor whatever else is told by an address -/
def flatT : T → Bool
  | .non => true
  | .bl _ => true
  | .int _ => true
  | .str _ => true
  | _ => false
theorem D.flat {C : Ctx} {F F' : Addr → Prop} {H H' : Hp} {v : V} {d : T} (h : D C H F v d) (hf : flatT d = true) : D C H' F' v d := by
  cases h <;> first | exact .non | exact .bl _ | exact .int _ | exact .str _ | (cases hf)
/-- name = e, a number or a text of it -/
theorem setB_c (hs : SrcStays C) {i : Nat} (l : List Nat) {D : Ends} {σ : L2.St} {H : Hp} (h : cS C W (fun ρ D => we (frz ρ l) (fun d => flatT d = true ∧ D.nx (ρ.set i (.sh d))) (D.ex (frz ρ l))) D σ H) : tAsg (cE C W we) (gName i) D σ H := by
  obtain ⟨P, F0, H0, F, ρ, Dv, s, q, o⟩ := h
  obtain ⟨F', s'⟩ := s.frz hs l
  exact ⟨F', _, _, _, s'.rel, q, fun v d F2 H2 x hd q2 => o.nx _ _ F H2 ((s.back hs x).setSh (hd.flat q2.1)) q2.2, o.exo hs s'⟩
theorem vs_if (hs : SrcStays C) {c : Expr} {a b : List Stmt} {wt : WT} (l : List Nat) (hc : PT X c (cT C W wt)) (ha : PSs X a (cS C W w)) (hb : PSs X b (cS C W w')) :
    PS X (.If c a b pos) (cS C W fun ρ D => wt (frz ρ l) (fun k => if k = true then w ρ D else w' ρ D) (D.ex (frz ρ l))) :=
  (ps_if hc ha hb).imp fun D σ H ⟨P, F0, H0, F, ρ, Dv, s, q, o⟩ => by
    obtain ⟨F', s'⟩ := s.frz hs l
    refine ⟨F', _, _, _, s'.rel, q, fun b F2 H2 x q2 => ?_, o.exo hs s'⟩
    cases b with
    | true => exact ⟨P, F0, H0, F, _, Dv, s.back hs x, q2, o⟩
    | false => exact ⟨P, F0, H0, F, _, Dv, s.back hs x, q2, o⟩
end
end L3

/-! L3h: what is walked; for, while, comprehensions. -/
namespace L3
open PySem PySem.Spec PyProof.Rows L2

/-- the walk J gives the trees ds, one after another, as long as the heap goes on from (F1, H1) -/
structure WalkT (C : Ctx) (J : It) (F1 : Addr → Prop) (H1 : Hp) (ds : List T) : Prop where
  go : ∀ i F H, i < ds.length → Later F1 H1 F H → J.go i H
  stop : ∀ F H, Later F1 H1 F H → J.stop ds.length H
  yld : ∀ i F H x H' d, ds[i]? = some d → Later F1 H1 F H → J.yld i H x H' → ∃ F', Ext C F H F' H' ∧ D C H' F' x d
abbrev WI := Rho → (List T → Prop) → (Ex → Prop) → Prop
def cI (C : Ctx) (W : WX) (w : WI) : TI := fun σ H R => ∃ F ρ Qv Ev, RelS C F H ρ σ ∧ w ρ Qv Ev ∧ (∀ J ds F' H', Ext C F H F' H' → WalkT C J F' H' ds → Qv ds → R J H') ∧ ExOut C W F H σ Ev
theorem _root_.L2.PI.imp {X : Cx} {tg e : Expr} {t t' : TI} (h : PI X tg e t) (i : ∀ σ H R, t' σ H R → t σ H R) : PI X tg e t' := ⟨fun pins s σ H R I q => h.run pins s σ H R I (i σ H R q)⟩

/-- a list or a tuple, whichever it is -/
def iSeq (K : PySem.W.Frag) (tl : TE) : TI := fun σ H R => tl σ H fun x H1 => (∃ a, x = .ref a ∧ (∃ xs, SqL K H1 a xs) ∧ R (Itl K a) H1) ∨ ∃ a, x = .ref a ∧ (∃ xs, SqT K H1 a xs) ∧ R (Itt K a) H1
theorem pi_seq {X : Cx} {tg l : Expr} {tl : TE} (hl : PE X l tl) : PI X tg l (iSeq X.K tl) := by
  refine ⟨fun pins s σ H R I h => ?_⟩
  refine thn (hl.run pins s σ H _ I h) fun v s1 ⟨x, H1, I1, r1, q1⟩ => ?_
  rcases q1 with ⟨a, e, ⟨xs, hq⟩, q⟩ | ⟨a, e, ⟨xs, hq⟩, q⟩
  · subst e
    cases r1
    obtain ⟨its, rv, p, hz⟩ := I1.list hq
    refine wpAny_pyIter_list p.isList ?_
    refine ⟨s1.heap.objs.size, [s1.heap.objs.size], _, _, H1, rfl, I1.kept (t' := s1.toks) fun b o e => Heap.get?_push_of_some _ e, turn_list a _, ⟨_, Heap.get?_push_size _ rfl, rfl, rfl⟩, fun b hb => ?_, q⟩
    have e : b = s1.heap.objs.size := by simpa using hb
    subst e
    exact I1.fpOk (Nat.le_refl _) (I1.hok.fresh (Nat.le_refl _))
  · subst e
    cases r1
    obtain ⟨its, rv, p, hz⟩ := I1.tuple hq
    refine wpAny_pyIter_tuple (show s1.heap.IsTuple a its.toArray from p) ?_
    refine ⟨s1.heap.objs.size, [s1.heap.objs.size], _, _, H1, rfl, I1.kept (t' := s1.toks) fun b o e => Heap.get?_push_of_some _ e, turn_tuple a _, ⟨_, Heap.get?_push_size _ rfl, rfl, rfl⟩, fun b hb => ?_, q⟩
    have e : b = s1.heap.objs.size := by simpa using hb
    subst e
    exact I1.fpOk (Nat.le_refl _) (I1.hok.fresh (Nat.le_refl _))
section
variable {C : Ctx} {F F' : Addr → Prop} {H H' : Hp}
theorem walkT_lst {a : Addr} {xs : List V} {ds : List T} (hs : SrcStays C) (h : H a = some (.lst xs)) (hf : F a) (hd : Ds C H F xs ds) : WalkT C (Itl C.K a) F H ds := by
  have at_ : ∀ {F2 : Addr → Prop} {H2 : Hp}, Later F H F2 H2 → SqL C.K H2 a xs := fun l => .of (l.ls a _ hf trivial h)
  refine ⟨fun i F2 H2 hi l => ?_, fun F2 H2 l => ⟨xs, at_ l, Nat.le_of_eq hd.length⟩, fun i F2 H2 x H3 d hi l y => ?_⟩
  · have hi' : i < xs.length := by rw [hd.length]; exact hi
    exact ⟨xs, xs[i], at_ l, by simp [hi']⟩
  · obtain ⟨e, y⟩ := y
    subst e
    obtain ⟨v, hv, dv⟩ := hd.get hi
    have := (y xs (at_ l)).symm.trans hv
    cases this
    exact ⟨F2, .refl, dv.later hs l⟩
theorem walkT_tup {a : Addr} {xs : List V} {ds : List T} (hs : SrcStays C) (h : SqT C.K H a xs) (hd : Ds C H F xs ds) : WalkT C (Itt C.K a) F H ds := by
  have at_ : ∀ {F2 : Addr → Prop} {H2 : Hp}, Later F H F2 H2 → SqT C.K H2 a xs := fun l => SqT.laterK h l
  refine ⟨fun i F2 H2 hi l => ?_, fun F2 H2 l => ⟨xs, at_ l, Nat.le_of_eq hd.length⟩, fun i F2 H2 x H3 d hi l y => ?_⟩
  · have hi' : i < xs.length := by rw [hd.length]; exact hi
    exact ⟨xs, xs[i], at_ l, by simp [hi']⟩
  · obtain ⟨e, y⟩ := y
    subst e
    obtain ⟨v, hv, dv⟩ := hd.get hi
    have := (y xs (at_ l)).symm.trans hv
    cases this
    exact ⟨F2, .refl, dv.later hs l⟩
/-- lo, lo + 1, .. -/
def rangeT (lo : Int) (n : Nat) : List T := (List.range n).map fun (i : Nat) => T.int (lo + (i : Int))
theorem walkT_rng {lo : Int} {n : Nat} : WalkT C (Itr lo n) F H (rangeT lo n) := by
  have hl : (rangeT lo n).length = n := by simp [rangeT]
  refine ⟨fun i F2 H2 hi l => ?_, fun F2 H2 l => ?_, fun i F2 H2 x H3 d hi l y => ?_⟩
  · rw [hl] at hi; exact hi
  · rw [hl]; exact Nat.le_refl n
  · obtain ⟨e, y⟩ := y
    subst e y
    have hi' : i < n := by
      have := (List.getElem?_eq_some_iff.mp hi).1
      rw [hl] at this; exact this
    rw [rangeT, List.getElem?_map, List.getElem?_range hi'] at hi
    cases hi
    exact ⟨F2, .refl, .int _⟩
end
section
variable {X : Cx} {C : Ctx} {W : WX} {tg e : Expr} {we : WE} {es : List Expr} {ws : WA} {p pos : Pos}
def seqT : T → Option (List T)
  | .lst xs => some xs
  | .tup xs => some xs
  | _ => none
theorem vi_seq (hs : SrcStays C) (hK : X.K = C.K) (he : PE X e (cE C W we)) : PI X tg e (cI C W fun ρ Q E => we ρ (fun d => ∃ xs, seqT d = some xs ∧ Q xs) E) :=
  (pi_seq he).imp fun σ H R ⟨F, ρ, Qv, Ev, rel, q, k, ex⟩ => ⟨F, ρ, _, Ev, rel, q, fun v d F2 H2 x hd ⟨xs, e, q2⟩ => by
    rw [hK]
    unfold seqT at e
    split at e
    · cases e
      obtain ⟨a, vs, rfl, ha, fa, hx⟩ := hd.isL
      exact .inl ⟨a, rfl, ⟨vs, .of ha⟩, k _ _ F2 H2 x (walkT_lst hs ha fa hx) q2⟩
    · cases e
      obtain ⟨a, vs, rfl, ha, hx⟩ := hd.isT
      exact .inr ⟨a, rfl, ⟨vs, ha⟩, k _ _ F2 H2 x (walkT_tup hs ha hx) q2⟩
    · exact (nomatch e), ex⟩
theorem vi_range1 (hg : Gl X "range") (hm : X.mg "range" = none) (ha : PA X [e] (cA C W ws)) (h1 : starEach [e] X.env = [(false, eval e X.env)]) :
    PI X tg (.Call (.Name "range" p) [e] [] pos) (cI C W fun ρ Q E => ws ρ (fun ds => ∃ j : Int, ds = [.int j] ∧ -(2 ^ 62) ≤ j ∧ j < 2 ^ 62 ∧ Q (rangeT 0 j.toNat)) E) :=
  (pi_range1 hg hm ha h1).imp fun σ H R ⟨F, ρ, Qv, Ev, rel, q, k, ex⟩ => ⟨F, ρ, _, Ev, rel, q, fun vs ds F2 H2 x hds ⟨j, e, b1, b2, q2⟩ => by
    subst e
    obtain ⟨v, rfl, hd⟩ := hds.one
    rw [hd.int_eq]
    exact ⟨j, rfl, b1, b2, k _ _ F2 H2 x walkT_rng q2⟩, ex⟩
theorem vi_range2 {e' : Expr} (hg : Gl X "range") (hm : X.mg "range" = none) (ha : PA X [e, e'] (cA C W ws)) (h1 : starEach [e, e'] X.env = [(false, eval e X.env), (false, eval e' X.env)]) (h2 : starEach [e'] X.env = [(false, eval e' X.env)]) :
    PI X tg (.Call (.Name "range" p) [e, e'] [] pos) (cI C W fun ρ Q E => ws ρ (fun ds => ∃ i j : Int, ds = [.int i, .int j] ∧ (-(2 ^ 62) ≤ i ∧ i < 2 ^ 62 ∧ -(2 ^ 62) ≤ j ∧ j < 2 ^ 62) ∧ Q (rangeT i (j - i).toNat)) E) :=
  (pi_range2 hg hm ha h1 h2).imp fun σ H R ⟨F, ρ, Qv, Ev, rel, q, k, ex⟩ => ⟨F, ρ, _, Ev, rel, q, fun vs ds F2 H2 x hds ⟨i, j, e, b, q2⟩ => by
    subst e
    obtain ⟨v, v', rfl, hd, hd'⟩ := hds.two
    rw [hd.int_eq, hd'.int_eq]
    exact ⟨i, j, rfl, b, k _ _ F2 H2 x walkT_rng q2⟩, ex⟩
end

/-- (0, x), (1, y), .. -/
def enumT (xs : List T) : List T := xs.zipIdx.map fun p => T.tup [.int ((p.2 : Nat) : Int), p.1]
section
variable {C : Ctx} {F : Addr → Prop} {H : Hp}
theorem enumT_at {xs : List T} {i : Nat} {d : T} (h : (enumT xs)[i]? = some d) : ∃ x, xs[i]? = some x ∧ d = .tup [.int (i : Int), x] := by
  unfold enumT at h
  rw [List.getElem?_map, List.getElem?_zipIdx] at h
  cases e : xs[i]? with
  | none => rw [e] at h; cases h
  | some x =>
    rw [e] at h
    cases h
    exact ⟨x, rfl, by simp⟩
theorem enumT_len {xs : List T} : (enumT xs).length = xs.length := by simp [enumT]
theorem walkT_enL {a : Addr} {xs : List V} {ds : List T} (hs : SrcStays C) (h : H a = some (.lst xs)) (hf : F a) (hd : Ds C H F xs ds) : WalkT C (Ite C.K a) F H (enumT ds) := by
  have at_ : ∀ {F2 : Addr → Prop} {H2 : Hp}, Later F H F2 H2 → SqL C.K H2 a xs := fun l => .of (l.ls a _ hf trivial h)
  refine ⟨fun i F2 H2 hi l => ?_, fun F2 H2 l => ⟨xs, at_ l, by rw [enumT_len, hd.length]; exact Nat.le_refl _⟩, fun i F2 H2 x H3 d hi l y => ?_⟩
  · have hi' : i < xs.length := by rw [hd.length]; rw [enumT_len] at hi; exact hi
    exact ⟨xs, xs[i], at_ l, by simp [hi']⟩
  · obtain ⟨p, x1, rfl, hp, rfl, f⟩ := y
    obtain ⟨d1, h1, rfl⟩ := enumT_at hi
    obtain ⟨v, hv, dv⟩ := hd.get h1
    have := (f xs (at_ l)).symm.trans hv
    cases this
    exact ⟨F2, .new_tup hp, .tup (.of upd_same) (.cons (.int _) (.cons (dv.later hs (l.trans (later_tup hp))) .nil))⟩
theorem walkT_enT {a : Addr} {xs : List V} {ds : List T} (hs : SrcStays C) (h : SqT C.K H a xs) (hd : Ds C H F xs ds) : WalkT C (Ien C.K a) F H (enumT ds) := by
  have at_ : ∀ {F2 : Addr → Prop} {H2 : Hp}, Later F H F2 H2 → SqT C.K H2 a xs := fun l => SqT.laterK h l
  refine ⟨fun i F2 H2 hi l => ?_, fun F2 H2 l => ⟨xs, at_ l, by rw [enumT_len, hd.length]⟩, fun i F2 H2 x H3 d hi l y => ?_⟩
  · have hi' : i < xs.length := by rw [hd.length]; rw [enumT_len] at hi; exact hi
    exact ⟨xs, xs[i], at_ l, by simp [hi']⟩
  · obtain ⟨p, x1, rfl, hp, rfl, f⟩ := y
    obtain ⟨d1, h1, rfl⟩ := enumT_at hi
    obtain ⟨v, hv, dv⟩ := hd.get h1
    have := (f xs (at_ l)).symm.trans hv
    cases this
    exact ⟨F2, .new_tup hp, .tup (.of upd_same) (.cons (.int _) (.cons (dv.later hs (l.trans (later_tup hp))) .nil))⟩
variable {X : Cx} {W : WX} {e : Expr} {we : WE} {p pos tpos : Pos} {elts : List Expr} {kk : Nat}
theorem vi_enum (hs : SrcStays C) (hK : X.K = C.K) (hg : Gl X "enumerate") (hm : X.mg "enumerate" = none) (he : PE X e (cE C W we)) (h1 : starEach [e] X.env = [(false, eval e X.env)]) :
    PI X (.Tuple elts kk tpos) (.Call (.Name "enumerate" p) [e] [] pos) (cI C W fun ρ Q E => we ρ (fun d => ∃ xs, seqT d = some xs ∧ Q (enumT xs)) E) :=
  (pi_en hg hm (va_cons hs he va_nil h1) h1).imp fun σ H R ⟨F, ρ, Qv, Ev, rel, q, k, ex⟩ => ⟨F, ρ, fun ds => ∃ d, ds = [d] ∧ ∃ xs, seqT d = some xs ∧ Qv (enumT xs), Ev, rel, by
    show we ρ (fun d => ∃ d', [d] = [d'] ∧ ∃ xs, seqT d' = some xs ∧ Qv (enumT xs)) Ev
    have e1 : (fun d => ∃ d', [d] = [d'] ∧ ∃ xs, seqT d' = some xs ∧ Qv (enumT xs)) = fun d => ∃ xs, seqT d = some xs ∧ Qv (enumT xs) := by
      funext d
      refine propext ⟨fun ⟨d', z, q⟩ => by cases z; exact q, fun q => ⟨d, rfl, q⟩⟩
    rw [e1]
    exact q, fun vs ds F2 H2 x hds ⟨d, ed, xs, es, q2⟩ => by
    subst ed
    obtain ⟨v, rfl, hd⟩ := hds.one
    rw [hK]
    unfold seqT at es
    split at es
    · cases es
      obtain ⟨a, vs, rfl, ha, fa, hx⟩ := hd.isL
      exact .inl ⟨a, vs, rfl, .of ha, k _ _ F2 H2 x (walkT_enL hs ha fa hx) q2⟩
    · cases es
      obtain ⟨a, vs, rfl, ha, hx⟩ := hd.isT
      exact .inr ⟨a, vs, rfl, ha, k _ _ F2 H2 x (walkT_enT hs ha hx) q2⟩
    · exact (nomatch es), ex⟩
end

/-! ### for -/
def wFor (g : WG) (wb : WS) (D : Dv) : List T → Rho → Prop
  | [], ρ => D.nx ρ
  | d :: ds, ρ => g d ρ fun ρ1 => wb ρ1 { D with nx := wFor g wb D ds, ct := wFor g wb D ds, bk := D.nx }
section
variable {C : Ctx} {W : WX} {P F0 F F1 : Addr → Prop} {H0 H H1 : Hp} {ρ ρ1 : Rho} {σ σ1 : L2.St}
/-- what the frame owns here -/
def Mine (H : Hp) (ρ : Rho) (σ : L2.St) : Addr → Prop := fun b => ∃ i, b ∈ ownI H ρ σ i
theorem Base.trans {Q : Addr → Prop} (a : Base C P F0 H0 F1 H1) (b : Base C Q F1 H1 F H) (q : ∀ c, Q c → H0 c = Option.none ∨ P c) : Base C P F0 H0 F H :=
  ⟨fun c o h n nt => b.same c o (a.same c o h n nt) (fun z => (q c z).elim (fun e => by rw [h] at e; cases e) n) nt, fun c h => b.fz c (a.fz c h), fun c h => by
    rcases b.new c h with z | z | z
    · exact a.new c z
    · exact .inr (a.none z)
    · exact .inr (q c z), fun c o h n => by
      obtain ⟨o1, h1⟩ := a.trk c o h n
      exact b.trk c o1 h1 fun z => (q c z).elim (fun e => by rw [h] at e; cases e) n, fun p r t => b.tab p r (a.tab p r t)⟩
theorem St.rebase (s : St C P F0 H0 F1 H1 ρ1 σ1) : St C (Mine H1 ρ1 σ1) F1 H1 F1 H1 ρ1 σ1 := ⟨s.rel, .refl, fun i b hb => .inr ⟨i, hb⟩⟩
theorem St.mineQ (s : St C P F0 H0 F1 H1 ρ1 σ1) : ∀ c, Mine H1 ρ1 σ1 c → H0 c = Option.none ∨ P c := fun c ⟨i, h⟩ => s.mine i c h
theorem St.unbase (s : St C P F0 H0 F1 H1 ρ1 σ1) (t : St C (Mine H1 ρ1 σ1) F1 H1 F H ρ σ) : St C P F0 H0 F H ρ σ :=
  ⟨t.rel, s.base.trans t.base s.mineQ, fun i b hb => by
    rcases t.mine i b hb with z | z
    · exact s.base.none z
    · exact s.mineQ b z⟩
theorem Base.later (s : St C P F0 H0 F1 H1 ρ1 σ1) (t : Base C (Mine H1 ρ1 σ1) F1 H1 F H) : Later F1 H1 F H := by
  refine ⟨fun b u nl nt r => ?_, fun b o fb lo e => ?_, t.fz⟩
  · have nm : ¬ Mine H1 ρ1 σ1 b := fun ⟨i, m⟩ => by
      obtain ⟨_, o, ho, lo⟩ := s.rel.live i b m
      rw [ho] at r; cases r; exact nl lo
    exact t.same b _ r nm nt
  · exact t.same b o e (fun ⟨i, m⟩ => (s.rel.live i b m).1 fb) lo.nt
/-- the outer wish, from the loop's start on -/
theorem Out.rebase {Dv : Dv} {N : Ends} (s : St C P F0 H0 F1 H1 ρ1 σ1) (o : Out C W P F0 H0 Dv N) : Out C W (Mine H1 ρ1 σ1) F1 H1 Dv N :=
  ⟨fun ρ σ F H t q => o.nx ρ σ F H (s.unbase t) q, fun ρ σ F H t q => o.bk ρ σ F H (s.unbase t) q, fun ρ σ F H t q => o.ct ρ σ F H (s.unbase t) q,
    fun v d F H b dm hd q => o.r0 v d F H (s.base.trans b s.mineQ) dm hd q,
    fun k a d F H b dm ho nd lv q => o.rk k a d F H (s.base.trans b s.mineQ) dm ho nd (fun c hc => by
      obtain ⟨h1, h2, h3⟩ := lv c hc
      refine ⟨?_, h2, h3⟩
      rcases h1 with z | z
      · exact s.base.none z
      · exact s.mineQ c z) q,
    fun cls dx ρ σ F H x t r q => o.ex cls dx ρ σ F H x (s.unbase t) r q⟩
end
section
variable {X : Cx} {C : Ctx} {W : WX} {tg iter : Expr} {body : List Stmt} {wi : WI} {g : WG} {wb : WS} {pos : Pos}
theorem vs_for (hs : SrcStays C) {is : List Nat} (l : List Nat) (hp : PassesOwn (model X.prog X.w) X.A X.env X.xe) (hc : X.calm = true) (hi : PI X tg iter (cI C W wi)) (hg : PG X tg (cG C is g)) (hb : PSs X body (cS C W wb))
    (h1 : ∀ x, foldedSetIterable iter X.env x = pure x) : PS X (.For tg iter body [] pos) (cS C W fun ρ D => wi (frz ρ l) (fun ds => wFor g wb D ds (frz ρ l)) (D.ex (frz ρ l))) :=
  (ps_for hp hc hi hg hb h1).imp fun N σ H ⟨P, F0, H0, F, ρ, Dv, s, q, o⟩ => by
    obtain ⟨F', s'⟩ := s.frz hs l
    refine ⟨F', _, _, _, s'.rel, q, fun J ds F1 H1 x wk q2 => ?_, o.exo hs s'⟩
    have s1 := s'.ext hs x
    refine ⟨fun i m σ H => m = ds.length - i ∧ i ≤ ds.length ∧ ∃ F2 ρ2, St C (Mine H1 (frz ρ l) _) F1 H1 F2 H ρ2 σ ∧ wFor g wb Dv (ds.drop i) ρ2, ⟨ds.length, by simp, Nat.zero_le _, F1, _, s1.rebase, by rw [List.drop_zero]; exact q2⟩, ?_⟩
    rintro i m σ2 H2 ⟨rfl, hi, F2, ρ2, t2, w2⟩
    have l2 := Base.later s1 t2.base
    by_cases hlt : i < ds.length
    · have hd : ds[i]? = some ds[i] := List.getElem?_eq_getElem hlt
      rw [List.drop_eq_getElem_cons hlt] at w2
      refine .inr ⟨wk.go i F2 H2 hlt l2, fun σ3 H3 => ∃ F3 ρ3, St C (Mine H1 (frz ρ l) _) F1 H1 F3 H3 ρ3 σ3 ∧ wFor g wb Dv (ds.drop (i + 1)) ρ3, fun σ3 H3 ⟨F3, ρ3, t3, w3⟩ => ⟨ds.length - (i + 1), by omega, rfl, hlt, F3, ρ3, t3, w3⟩, fun y H3 hy => ?_⟩
      obtain ⟨F3, x3, hd3⟩ := wk.yld i F2 H2 y H3 _ hd l2 hy
      refine ⟨_, _, _, F3, ρ2, _, _, t2.ext hs x3, hd3, w2, fun ρ4 σ4 F4 H4 t4 _ _ w4 => ?_⟩
      have o1 := Out.rebase s1 o
      exact ⟨_, _, _, F4, ρ4, _, t4, w4, ⟨fun ρ5 σ5 F5 H5 t5 w5 => ⟨F5, ρ5, t5, w5⟩, fun ρ5 σ5 F5 H5 t5 w5 => o1.nx ρ5 σ5 F5 H5 t5 w5, fun ρ5 σ5 F5 H5 t5 w5 => ⟨F5, ρ5, t5, w5⟩, o1.r0, o1.rk, o1.ex⟩⟩
    · have e : i = ds.length := by omega
      subst e
      rw [List.drop_length] at w2
      exact .inl ⟨wk.stop F2 H2 l2, o.nx ρ2 σ2 F2 H2 (s1.unbase t2) w2⟩
/-! ### while -/
def wWhile (l : List Nat) (wt : WT) (wb : WS) (D : Dv) : Nat → Rho → Prop
  | 0, _ => False
  | n + 1, ρ => wt (frz ρ l) (fun k => if k = true then wb ρ { D with nx := wWhile l wt wb D n, ct := wWhile l wt wb D n, bk := D.nx } else D.nx ρ) (D.ex (frz ρ l))
theorem vs_while (hs : SrcStays C) {c : Expr} {wt : WT} (l : List Nat) (hp : PassesOwn (model X.prog X.w) X.A X.env X.xe) (hc : PT X c (cT C W wt)) (hb : PSs X body (cS C W wb)) :
    PS X (.While c body [] pos) (cS C W fun ρ D => ∃ n, wWhile l wt wb D n ρ) :=
  (ps_while hp hc hb).imp fun N σ H ⟨P, F0, H0, F, ρ, Dv, s, ⟨n, q⟩, o⟩ => by
    refine ⟨fun m σ H => ∃ F ρ, St C P F0 H0 F H ρ σ ∧ wWhile l wt wb Dv m ρ, ⟨n, F, ρ, s, q⟩, ?_⟩
    rintro m σ2 H2 ⟨F2, ρ2, t2, w2⟩
    cases m with
    | zero => exact w2.elim
    | succ m =>
      obtain ⟨F3, t3⟩ := t2.frz hs l
      refine ⟨F3, _, _, _, t3.rel, w2, fun b F4 H4 x4 w4 => ?_, o.exo hs t3⟩
      have t4 := t2.back hs x4
      cases b with
      | true =>
        rw [if_pos rfl] at w4
        exact ⟨fun σ5 H5 => ∃ F ρ, St C P F0 H0 F H5 ρ σ5 ∧ wWhile l wt wb Dv m ρ, fun σ5 H5 h => ⟨m, Nat.lt_succ_self m, h⟩, P, F0, H0, F2, _, _, t4, w4, ⟨fun ρ5 σ5 F5 H5 t5 w5 => ⟨F5, ρ5, t5, w5⟩, fun ρ5 σ5 F5 H5 t5 w5 => o.nx ρ5 σ5 F5 H5 t5 w5, fun ρ5 σ5 F5 H5 t5 w5 => ⟨F5, ρ5, t5, w5⟩, o.r0, o.rk, o.ex⟩⟩
      | false =>
        rw [if_neg Bool.false_ne_true] at w4
        exact o.nx _ σ2 F2 H4 t4 w4
end
end L3

/-! L3i: list comprehensions. -/
namespace L3
open PySem PySem.Spec PyProof.Rows L2

def wipeT (ρ : Rho) : List Nat → Rho
  | [] => ρ
  | v :: vs => (wipeT ρ vs).set v .un
abbrev WF : WX := fun _ _ _ _ => False
abbrev NoEx : Ex → Prop := fun _ => False
/-- the turns of a comprehension: acc is made so far -/
def wLc (g : WG) (wt : WT) (we : WE) (ρ0 : Rho) (Q : List T → Prop) : List T → List T → Prop
  | [], acc => Q acc
  | d :: ds, acc => g d ρ0 fun ρ1 => wt ρ1 (fun b => if b = true then we ρ1 (fun y => acc.length < sizeLine ∧ wLc g wt we ρ0 Q ds (acc ++ [y])) NoEx else wLc g wt we ρ0 Q ds acc) NoEx
section
variable {C : Ctx} {W : WX} {F : Addr → Prop} {H : Hp}
theorem RelS.wipe {ρ : Rho} {σ : L2.St} (r : RelS C F H ρ σ) : ∀ vs : List Nat, RelS C F H (wipeT ρ vs) (L2.wipe σ vs)
  | [] => r
  | v :: vs => (r.wipe vs).forget v none
theorem ownI_wipe {ρ : Rho} {σ : L2.St} : ∀ (vs : List Nat) (j : Nat) (b : Addr), b ∈ ownI H (wipeT ρ vs) (L2.wipe σ vs) j → b ∈ ownI H ρ σ j
  | [], _, _, h => h
  | v :: vs, j, b, h => by
    refine ownI_wipe vs j b ?_
    unfold wipeT L2.wipe at h
    unfold ownI at h ⊢
    by_cases hj : v = j
    · subst hj
      by_cases hl : v < (wipeT ρ vs).length
      · rw [getD_set_self hl] at h; cases h
      · rw [getD_set_out (x := Slot.un) (Nat.le_of_not_lt hl), List.getD_eq_getElem?_getD, List.getElem?_eq_none (Nat.le_of_not_lt hl)] at h
        cases h
    · rw [getD_set_ne hj, getD_set_ne hj] at h
      exact h
theorem wipe_in {σ : L2.St} {i : Nat} : ∀ {vs : List Nat}, i ∈ vs → i < σ.length → (L2.wipe σ vs)[i]? = some none
  | [], h, _ => nomatch h
  | v :: vs, h, hl => by
    unfold L2.wipe
    by_cases e : v = i
    · subst e
      rw [List.getElem?_set_self (by rw [wipe_length]; exact hl)]
    · rw [List.getElem?_set_ne e]
      exact wipe_in ((List.mem_cons.mp h).resolve_left fun z => e z.symm) hl
theorem wipe_wipe (σ : L2.St) (vs : List Nat) : L2.wipe (L2.wipe σ vs) vs = L2.wipe σ vs := by
  refine List.ext_getElem? fun i => ?_
  by_cases h : i ∈ vs
  · by_cases hl : i < σ.length
    · rw [wipe_in h (by rw [wipe_length]; exact hl), wipe_in h hl]
    · rw [List.getElem?_eq_none (by rw [wipe_length, wipe_length]; omega), List.getElem?_eq_none (by rw [wipe_length]; omega)]
  · rw [wipe_out h]
theorem ExOut.no {σ : L2.St} : ExOut C WF F H σ NoEx := fun _ _ _ _ _ _ _ q => q
theorem Ds.one_of {d : T} {v : V} (h : D C H F v d) : Ds C H F [v] [d] := .cons h .nil
/-- any base will do -/
theorem RelS.st {ρ : Rho} {σ : L2.St} (r : RelS C F H ρ σ) : St C (fun _ => True) F H F H ρ σ := ⟨r, .refl, fun _ _ _ => .inr trivial⟩
theorem lc_c (hs : SrcStays C) {vs : List Nat} {wi : WI} {g : WG} {wt : WT} {we : WE} {σ : L2.St} {Q : VK} {k : Nat}
    (h : ∃ F ρ Qv Ev, RelS C F H ρ σ ∧ wi ρ (fun ds => wLc g wt we (wipeT ρ vs) Qv ds []) Ev ∧
      (∀ p xs ds F' H', Ext C F H F' H' → H' p = some (.lst xs) → H p = none → ¬ F' p → (∀ b, F' b → ∃ o, H' b = some o) → Ds C H' F' xs ds → Qv ds → Q (.ref p) H') ∧ ExOut C W F H σ Ev) :
    tLc (cI C W wi) (cG C vs g) (cT C WF wt) (cE C WF we) vs σ H Q := by
  obtain ⟨F0, ρ, Qv, Ev, rel, q, kk, ex⟩ := h
  refine ⟨F0, ρ, _, Ev, rel, q, fun J ds F1 H1 x1 wk q1 p hp => ?_, ex⟩
  have rel1 := rel.ext hs x1
  have np : ¬ F1 p := fun z => by
    obtain ⟨o, ho⟩ := rel1.dom p z
    rw [hp] at ho; cases ho
  have np0 : H p = none := by
    cases e : H p with
    | none => rfl
    | some o =>
      obtain ⟨o', h'⟩ := x1.trk p o e
      rw [hp] at h'; cases h'
  have own1 : ∀ j b, b ∈ ownI H1 ρ σ j → b ≠ p := fun j b hb z => by
    subst z
    obtain ⟨_, o, ho, _⟩ := rel1.live j b hb
    rw [hp] at ho; cases ho
  -- what stands at each turn
  refine ⟨fun i m H => m = ds.length - i ∧ i ≤ ds.length ∧ ∃ F acc as, RelS C F H ρ σ ∧ Ext C F1 H1 F H ∧ H p = some (.lst acc) ∧ ¬ F p ∧ (∀ j b, b ∈ ownI H ρ σ j → b ≠ p) ∧ Ds C H F acc as ∧ wLc g wt we (wipeT ρ vs) Qv (ds.drop i) as,
    ⟨ds.length, by simp, Nat.zero_le _, F1, [], [], rel1.ext hs (.new_tup hp), .new_tup hp, upd_same, np, fun j b hb => own1 j b (by rwa [ownI_exts rel1 (Ext.new_tup (F := F1) hp)] at hb), .nil, by rw [List.drop_zero]; exact q1⟩, ?_⟩
  rintro i m H2 ⟨rfl, hi, F2, acc, as, r2, x2, hp2, nf2, ow2, da, w2⟩
  by_cases hlt : i < ds.length
  · have hd : ds[i]? = some ds[i] := List.getElem?_eq_getElem hlt
    rw [List.drop_eq_getElem_cons hlt] at w2
    refine .inr ⟨wk.go i F2 H2 hlt x2.later, fun H3 => ∃ F acc as, RelS C F H3 ρ σ ∧ Ext C F1 H1 F H3 ∧ H3 p = some (.lst acc) ∧ ¬ F p ∧ (∀ j b, b ∈ ownI H3 ρ σ j → b ≠ p) ∧ Ds C H3 F acc as ∧ wLc g wt we (wipeT ρ vs) Qv (ds.drop (i + 1)) as,
      fun H3 ⟨F3, acc3, as3, h3⟩ => ⟨ds.length - (i + 1), by omega, rfl, hlt, F3, acc3, as3, h3⟩, fun y H3 hy => ?_⟩
    obtain ⟨F3, x3, hd3⟩ := wk.yld i F2 H2 y H3 _ hd x2.later hy
    have r3 := r2.ext hs x3
    -- nothing of a turn takes p
    have step : ∀ {F4 : Addr → Prop} {H4 : Hp}, Ext C F2 H2 F4 H4 → RelS C F4 H4 ρ σ ∧ Ext C F1 H1 F4 H4 ∧ H4 p = some (.lst acc) ∧ ¬ F4 p ∧ (∀ j b, b ∈ ownI H4 ρ σ j → b ≠ p) ∧ Ds C H4 F4 acc as := fun x4 =>
      ⟨r2.ext hs x4, x2.trans x4, x4.same p _ hp2 (fun _ e => nomatch e), fun z => (x4.new p z).elim nf2 fun ⟨e, _⟩ => by (rw [hp2] at e; cases e), fun j b hb => ow2 j b (by rwa [ownI_exts r2 x4] at hb), da.later hs x4.later⟩
    refine ⟨_, _, _, F3, _, _, _, (r3.wipe vs).st, hd3, w2, fun ρ4 σ4 F4 H4 s4 x4 e4 w4 => ⟨e4.trans (wipe_wipe σ vs), ?_⟩⟩
    refine ⟨F4, ρ4, _, NoEx, s4.rel, w4, fun b F5 H5 x5 w5 => ?_, .no⟩
    cases b with
    | false =>
      obtain ⟨h1, h2, h3, h4, h5, h6⟩ := step ((x3.trans x4).trans x5)
      exact ⟨F5, acc, as, h1, h2, h3, h4, h5, h6, w5⟩
    | true =>
      refine ⟨F5, ρ4, _, NoEx, s4.rel.ext hs x5, w5, fun v d F6 H6 x6 hd6 ⟨hz, w6⟩ => ?_, .no⟩
      obtain ⟨h1, h2, h3, h4, h5, h6⟩ := step (((x3.trans x4).trans x5).trans x6)
      refine ⟨acc, h3, by rw [h6.length]; exact hz, F6, acc ++ [v], as ++ [d], ?_, ?_, upd_same, h4, ?_, ?_, w6⟩
      · refine h1.keep hs (Later.write h4 h3 trivial) (fun j b hb => ⟨upd_ne (h5 j b hb), (h1.live j b hb).1⟩) (fun b z => ?_) fun t ht => tabS_write (h1.tabs t ht) h3 trivial
        obtain ⟨o, ho⟩ := h1.dom b z
        by_cases e : b = p
        · exact ⟨_, by rw [e, upd_same]⟩
        · exact ⟨o, by rw [upd_ne e]; exact ho⟩
      · refine ⟨fun b o e nt => ?_, h2.fz, fun b z => (h2.new b z).imp id fun ⟨e1, o, e2⟩ => ⟨e1, ?_⟩, fun b o e => ?_, fun P q t => tabS_write (h2.tab P q t) h3 trivial⟩
        · rw [upd_ne (ne_of_none e hp)]; exact h2.same b o e nt
        · rw [upd_ne (ne_of_none e hp)]; exact h2.trk b o e
        · by_cases e : b = p
          · exact ⟨_, by rw [e, upd_same]⟩
          · exact ⟨o, by rw [upd_ne e]; exact e2⟩
      · intro j b hb
        rw [ownI_keep (H := H6) fun c hc => upd_ne (h5 j c hc)] at hb
        exact h5 j b hb
      · exact (h6.append (.one_of hd6)).later hs (Later.write h4 h3 trivial)
  · have e : i = ds.length := by omega
    subst e
    rw [List.drop_length] at w2
    exact .inl ⟨wk.stop F2 H2 x2.later, kk p acc as F2 H2 (x1.trans x2) hp2 np0 nf2 r2.dom da w2⟩
end
section
variable {X : Cx} {C : Ctx} {W : WX} {elt tg iter : Expr} {ifs : List Expr} {scope : Scope} {own : List (Str × Nat)} {pos : Pos} {wi : WI} {g : WG} {wt : WT} {we : WE}
abbrev wLcE (wi : WI) (g : WG) (wt : WT) (we : WE) (vs : List Nat) : WE := fun ρ Q E => wi ρ (fun ds => wLc g wt we (wipeT ρ vs) (fun r => Q (.lst r)) ds []) E
theorem lc_sh (hs : SrcStays C) {vs : List Nat} {σ : L2.St} {H : Hp} {Q : VK} (h : cE C W (wLcE wi g wt we vs) σ H Q) : tLc (cI C W wi) (cG C vs g) (cT C WF wt) (cE C WF we) vs σ H Q := by
  obtain ⟨F, ρ, Qv, Ev, rel, q, k, ex⟩ := h
  refine lc_c (k := 0) hs ⟨F, ρ, _, Ev, rel, q, fun p xs ds F' H' x hp np nf dm hd q2 => ?_, ex⟩
  have x2 : Ext C F H (fun b => F' b ∨ b = p) H' := ⟨x.same, fun b z => .inl (x.fz b z), fun b z => by
    rcases z with z | z
    · exact x.new b z
    · subst z; exact .inr ⟨np, _, hp⟩, x.trk, x.tab⟩
  exact k (.ref p) (.lst ds) (fun b => F' b ∨ b = p) H' x2 (.lst hp (.inr rfl) (hd.later hs ⟨fun _ _ _ _ z => z, fun _ _ _ _ z => z, fun _ z => .inl z⟩)) q2
theorem lc_own (hs : SrcStays C) {vs : List Nat} {σ : L2.St} {H : Hp} {Q : VK} (h : cF C W 1 (wLcE wi g wt we vs) σ H Q) : tLc (cI C W wi) (cG C vs g) (cT C WF wt) (cE C WF we) vs σ H Q := by
  obtain ⟨F, ρ, Qv, Ev, rel, q, k, ex⟩ := h
  refine lc_c (k := 0) hs ⟨F, ρ, _, Ev, rel, q, fun p xs ds F' H' x hp np nf dm hd q2 => ?_, ex⟩
  refine k p (.lst ds) F' H' x ⟨nf, .inl ⟨xs, ds, rfl, hp, hd⟩⟩ (by show [p].Nodup; simp) (fun b hb => ?_) q2
  have e : b = p := by
    have : b ∈ [p] := hb
    simpa using this
  subst e
  exact ⟨nf, np, _, hp, trivial⟩
section
variable (hc : X.calm = true) (hN : X.N.Nodup) (hi : PI X tg iter (cI C W wi)) (ok : BlkOk X.N X.env.scope scope own)
    (hg : ∀ (s : Shared) (H : Hp) (C' : Addr) (cl : List (Str × Addr)) (fp : List Addr), PG (X.blk s H scope (compEnvC scope cl C' X.env) fp) tg (cG C (own.map (·.2)) g)) (ht : ∀ (s : Shared) (H : Hp) (C' : Addr) (cl : List (Str × Addr)) (fp : List Addr), PTs (X.blk s H scope (compEnvC scope cl C' X.env) fp) ifs (cT C WF wt))
    (he : ∀ (s : Shared) (H : Hp) (C' : Addr) (cl : List (Str × Addr)) (fp : List Addr), PE (X.blk s H scope (compEnvC scope cl C' X.env) fp) elt (cE C WF we)) (hf : ∀ x, foldedSetIterable iter X.env x = Pure.pure x)
include hc hN hi ok hg ht he hf
theorem ve_lc (hs : SrcStays C) : PE X (.ListComp elt [⟨tg, iter, ifs, 0⟩] scope pos) (cE C W (wLcE wi g wt we (own.map (·.2)))) :=
  (pe_lc hc hN hi ok hg ht he hf).imp fun _ _ _ h => lc_sh hs h
theorem vf_lc (hs : SrcStays C) : PE X (.ListComp elt [⟨tg, iter, ifs, 0⟩] scope pos) (cF C W 1 (wLcE wi g wt we (own.map (·.2)))) :=
  (pe_lc hc hN hi ok hg ht he hf).imp fun _ _ _ h => lc_own hs h
theorem vs_setLc (hs : SrcStays C) {i : Nat} {y : Str} {py spos : Pos} (l : List Nat) (hy : X.N[i]? = some y) (hyl : X.env.scope.names.lookup y = some .local)
    (hsw : swapsWith (.ListComp elt [⟨tg, iter, ifs, 0⟩] scope pos) (some (.Name y py)) spos.line X.env = Pure.pure true) :
    PS X (.Assign [.Name y py] (.ListComp elt [⟨tg, iter, ifs, 0⟩] scope pos) spos) (cS C W fun ρ D => wLcE wi g wt we (own.map (·.2)) (frz ρ l) (fun d => D.nx ((frz ρ l).set i (.sh d))) (D.ex (frz ρ l))) :=
  (ps_setLc hc hN hy hyl hsw hi ok hg ht he hf).imp fun D σ H h => by
    obtain ⟨F, ρ, Qv, Ev, q⟩ := set_c hs l h
    exact lc_sh hs ⟨F, ρ, Qv, Ev, q⟩
theorem vs_setLcF (hs : SrcStays C) {i : Nat} {y : Str} {py spos : Pos} (l : List Nat) (hy : X.N[i]? = some y) (hyl : X.env.scope.names.lookup y = some .local)
    (hsw : swapsWith (.ListComp elt [⟨tg, iter, ifs, 0⟩] scope pos) (some (.Name y py)) spos.line X.env = Pure.pure true) :
    PS X (.Assign [.Name y py] (.ListComp elt [⟨tg, iter, ifs, 0⟩] scope pos) spos) (cS C W fun ρ D => wLcE wi g wt we (own.map (·.2)) (frz ρ l) (fun d => D.nx ((frz ρ l).set i (.own 1 d))) (D.ex (frz ρ l))) :=
  (ps_setLc hc hN hy hyl hsw hi ok hg ht he hf).imp fun D σ H h => by
    obtain ⟨F, ρ, Qv, Ev, q⟩ := setF_c hs l h
    exact lc_own hs ⟨F, ρ, Qv, Ev, q⟩
end
end
end L3

/-! L3j: defs: what they promise, their calls, their bodies. -/
namespace L3
open PySem PySem.Spec PyProof.Rows L2

/-! ### defs where no text of a thing is under way: what repr asks -/
structure FnG (P : Program) (w : World) (K : PySem.W.Frag) (mg : Str → Option Value) (base : Heap) (k : Nat) (f : Addr) (fd : FuncData) (ps : List Str) (sp : Sp) : Prop where
  len : ∀ vs H Q E, sp vs H Q E → vs.length = ps.length
  run : ∀ (A : Around) (outer : List Env) (s : Shared) (H : Hp) (args : Args) (us : List Value) (vs : List V) (Q : VK) (E : XK), Room k A → A.guards = some [] → Env0 P w K mg base A outer s H → BindsTo s fd args (ps.zip us) → Vals vs us → sp vs H Q E →
    codeAny (model P w) A (.call (.ref f) args) (CR (L2.CX P w) outer P w H s Q E) s
theorem FnG.mono {P : Program} {w : World} {K : PySem.W.Frag} {mg : Str → Option Value} {base : Heap} {j k : Nat} {f : Addr} {fd : FuncData} {ps : List Str} {sp : Sp} (F : FnG P w K mg base j f fd ps sp) (h : j ≤ k) : FnG P w K mg base k f fd ps sp :=
  ⟨F.len, fun A outer s H args us vs Q E hr => F.run A outer s H args us vs Q E (hr.mono h)⟩
theorem FnG.imp {P : Program} {w : World} {K : PySem.W.Frag} {mg : Str → Option Value} {base : Heap} {k : Nat} {f : Addr} {fd : FuncData} {ps : List Str} {sp sp' : Sp} (F : FnG P w K mg base k f fd ps sp) (h : ∀ vs H Q E, sp' vs H Q E → sp vs H Q E) : FnG P w K mg base k f fd ps sp' :=
  ⟨fun vs H Q E q => F.len vs H Q E (h _ _ _ _ q), fun A outer s H args us vs Q E hr hg he hb hv hs => F.run A outer s H args us vs Q E hr hg he hb hv (h _ _ _ _ hs)⟩
theorem fnG_of_ok {P : Program} {w : World} {K : PySem.W.Frag} {mg : Str → Option Value} {base : Heap} {k : Nat} {f : Addr} {fd : FuncData} {ps : List Str} {sp : Sp} (F : FnOk P w K mg base (L2.CX P w) k f fd ps sp) : FnG P w K mg base k f fd ps sp :=
  ⟨F.len, fun A outer s H args us vs Q E hr _ he hb hv hs => F.run A outer s H args us vs Q E hr he hb hv hs⟩
theorem okG {P : Program} {w : World} {K : PySem.W.Frag} {mg : Str → Option Value} {base : Heap} {x qual : Str} {st : Stmt} {f : Addr} {fd : FuncData} {N ps : List Str} {k : Nat} {sp : Sp} (F : Fun K x qual st f fd) (S : FnScope N ps (defScope st)) (len : ∀ vs H Q E, sp vs H Q E → vs.length = ps.length)
    (hbody : ∀ (cdv : Value), fd.code = cdv → ∀ (A : Around) (outer : List Env) (s : Shared) (H : Hp) (vs : List V) (Q : VK) (E : XK), Room k (A.deeper (envOfC qual (defScope st) s.heap.objs.size f cdv)) → (A.deeper (envOfC qual (defScope st) s.heap.objs.size f cdv)).guards = some [] → sp vs H Q E →
      ∃ t, PSs (cxOf (L2.CX P w) P w K mg base N qual (defScope st) f cdv A outer s H E) (defBody st) t ∧ t { nx := fun _ H' => Q .non H', rt := Q } (start N vs) H) : FnG P w K mg base (k + 1) f fd ps sp := by
  obtain ⟨oc, od, kV, doc, pm, an, cdv, ct, osl, rfl, lk, hcd⟩ := F.ex
  refine ⟨len, fun A outer s H args us vs Q E hr hgd e0 hb r hsp => ?_⟩
  have hl := len _ _ _ _ hsp
  have KX : K.In s.heap := e0.mod.kin.keeps fun b o e => (e0.bs b o e).1
  have lim : s.heap.NoLimit := e0.mod.nolimit.keeps fun b o e => (e0.bs b o e).1
  have hkind : ∀ y ∈ ps.zip us, (defScope st).names.lookup y.1 = some .local ∨ ((defScope st).names.lookup y.1 = some .cell ∧ ((cellsFrom (s.heap.objs.size + 1) (defScope st).names []).lookup y.1).isSome = true) := fun ⟨n, v⟩ hy => by
    rcases S.par n (List.of_mem_zip hy).1 with q | q
    · exact .inl q
    · exact .inr ⟨q, PySem.W.cellsFrom_some _ _ _ (.inl q)⟩
  refine codeAny_call_function hr.depth (KX _ _ lk) rfl S.co S.gen rfl (PySem.W.codeRec_of KX hcd) (hb _ _ _ _ ?_)
  refine wpAny_newFunctionEnv_cells S.kind hkind fun env he s1 x => ?_
  subst he
  refine ⟨lim.keeps x.toInCall.keep, codeAny_func ?_⟩
  obtain ⟨t, ht, hq⟩ := hbody cdv rfl A outer s H vs Q E (hr.deeper _) hgd hsp
  have I : Inv (cxOf (L2.CX P w) P w K mg base N qual (defScope st) f cdv A outer s H E) [] (start N vs) H s1 := inv_start S hr.hd e0 hl r x
  refine wpAny_mono (ht.run [] s1 (start N vs) H _ I hq) (fun fl s' hs => ?_) fun e s' hs => hs
  cases fl with
  | ret u =>
    obtain ⟨v, σ', H', J, rv, q⟩ := hs
    exact ⟨v, H', J.os, J.bare, J.base, J.hok, rv, q⟩
  | next =>
    obtain ⟨σ', H', J, q⟩ := hs
    exact ⟨V.non, H', J.os, J.bare, J.base, J.hok, rfl, q⟩
  | brk =>
    obtain ⟨_, _, _, q⟩ := hs
    exact False.elim q
  | cont =>
    obtain ⟨_, _, _, q⟩ := hs
    exact False.elim q
theorem run_fnG {X : Cx} {k : Nat} {f : Addr} {fd : FuncData} {ps : List Str} {sp : Sp} {E : L2.St → XK} {pins : List (Addr × Obj)} {σ : L2.St} {H : Hp} {s : Shared} {Q : VK} {us : List Value} {vs : List V} (F : FnG X.prog X.w X.K X.mg X.base k f fd ps sp) (hr : Room k X.A) (hgd : X.A.guards = some [])
    (hb : Binds X.K fd ps []) (hx : PassesAt (L2.CX X.prog X.w) X σ (E σ)) (I : Inv X pins σ H s) (r : Vals vs us) (h : sp vs H Q (E σ)) : wpAny (model X.prog X.w) X.A (call (.ref f) us) (EP X pins σ Q) X.xe s := by
  have hl : us.length = ps.length := by rw [← r.length]; exact F.len _ _ _ _ h
  have b := hb s us I.kIn (by rw [List.append_nil]; exact hl)
  rw [List.append_nil] at b
  refine wpAny_call (codeAny_mono (F.run X.A X.stack s H ⟨us, []⟩ us vs Q (E σ) hr hgd I.env0 b r h) fun r s' hq => ?_)
  cases r with
  | error e => exact hx pins H s e s' I hq
  | ok fl =>
    cases fl with
    | ret u => exact I.after hq
    | next => exact False.elim hq
    | brk => exact False.elim hq
    | cont => exact False.elim hq
theorem pe_callG {X : Cx} {k : Nat} {f : Addr} {fd : FuncData} {ps : List Str} {sp : Sp} {E : L2.St → XK} {x : Str} {p pos : Pos} {es : List Expr} {t : TA} (F : FnG X.prog X.w X.K X.mg X.base k f fd ps sp) (hr : Room k X.A) (hgd : X.A.guards = some []) (hg : Gl X x) (hm : X.mg x = some (.ref f)) (hk : PySem.W.keepIn X.K (.ref f) = true)
    (hb : Binds X.K fd ps []) (hx : ∀ σ, PassesAt (L2.CX X.prog X.w) X σ (E σ)) {e : Expr} (ha : PA X (e :: es) t) (hdb : (x == ("__debug__" : Str)) = false) (he : starEach (e :: es) X.env = (false, eval e X.env) :: starEach es X.env) (hpl : (backTo pos (starEach es X.env)).any (·.1) = false) :
    PE X (.Call (.Name x p) (e :: es) [] pos) (tCallS sp E t) := by
  refine ⟨fun pins s σ H Q I h => ?_⟩
  refine wpAny_Call_Name_kw (ld_glob I hg hm ?_ hdb)
  refine PySem.W.callWith_K (h₀ := X.base) I.ok.mod.kin hk (thn (ha.run pos pins s σ H _ I h) fun us s1 ⟨vs, H1, I1, r, q⟩ => ⟨I1.kIn, ?_⟩) he hpl
  exact run_fnG F hr hgd hb (hx σ) I1 r q

/-- a def's word: the arguments, what is wanted of the value, of an exception -/
abbrev VSp := List T → (T → Prop) → (Ex → Prop) → Prop
/-- as a promise: n arguments; fr = 0: the value is a shared tree; fr above 0: a new thing, owned so deep -/
def spV (C : Ctx) (n fr : Nat) (sp : VSp) : Sp := fun vs H Q E => ∃ F ds Qv Ev, vs.length = n ∧ (∀ b, F b → ∃ o, H b = some o) ∧ (∀ p ∈ C.tabs, LamX.TabS H p.1 p.2) ∧ Ds C H F vs ds ∧ sp ds Qv Ev ∧
  (fr = 0 → ∀ v d F' H', Ext C F H F' H' → D C H' F' v d → Qv d → Q v H') ∧
  (∀ k, fr = k + 1 → ∀ a d F' H', Ext C F H F' H' → OwnAt C H' F' (k + 1) a d → (owned H' (k + 1) a).Nodup → (∀ b ∈ owned H' (k + 1) a, ¬ F' b ∧ H b = none ∧ ∃ o, H' b = some o ∧ LD o) → Qv d → Q (.ref a) H') ∧
  (∀ cls dx F' H' x, Ext C F H F' H' → ExR C F' H' cls dx x → Ev x → E cls dx H')
section
variable {C : Ctx} {W : WX} {F : Addr → Prop} {H : Hp} {ρ : Rho} {σ : L2.St}
/-- a new thing, taken as a shared tree -/
theorem share (hs : SrcStays C) {k : Nat} {a : Addr} {d : T} {F' : Addr → Prop} {H' : Hp} (x : Ext C F H F' H') (h : OwnAt C H' F' (k + 1) a d) (lv : ∀ b ∈ owned H' (k + 1) a, ¬ F' b ∧ H b = none ∧ ∃ o, H' b = some o ∧ LD o) :
    ∃ F'', Ext C F H F'' H' ∧ D C H' F'' (.ref a) d := by
  refine ⟨fun b => F' b ∨ b ∈ owned H' (k + 1) a, ⟨x.same, fun b z => .inl (x.fz b z), fun b z => ?_, x.trk, x.tab⟩, h.frozen hs (fun _ z => .inl z) fun _ z => .inr z⟩
  rcases z with z | z
  · exact x.new b z
  · obtain ⟨_, h2, o, h3, _⟩ := lv b z
    exact .inr ⟨h2, o, h3⟩
theorem ve_of_vf (hs : SrcStays C) {X : Cx} {e : Expr} {k : Nat} {w : WE} (h : PE X e (cF C W (k + 1) w)) : PE X e (cE C W w) :=
  h.imp fun σ H Q ⟨F, ρ, Qv, Ev, rel, q, kk, ex⟩ => ⟨F, ρ, Qv, Ev, rel, q, fun a d F' H' x ho nd lv q2 => by
    obtain ⟨F2, x2, hd⟩ := share hs x ho lv
    exact kk _ _ F2 H' x2 hd q2, ex⟩
variable {X : Cx} {kk n : Nat} {f : Addr} {fd : FuncData} {ps : List Str} {sp : VSp} {x : Str} {p pos : Pos} {e : Expr} {es : List Expr} {ws : WA}
theorem ve_call (hs : SrcStays C) (Fn : FnG X.prog X.w X.K X.mg X.base kk f fd ps (spV C n 0 sp)) (hr : Room kk X.A) (hgd : X.A.guards = some []) (hg : Gl X x) (hm : X.mg x = some (.ref f)) (hk : PySem.W.keepIn X.K (.ref f) = true) (hb : Binds X.K fd ps []) (tk : Takes X W)
    (ha : PA X (e :: es) (cA C W ws)) (hdb : (x == ("__debug__" : Str)) = false) (h1 : starEach (e :: es) X.env = (false, eval e X.env) :: starEach es X.env) (hpl : (backTo pos (starEach es X.env)).any (·.1) = false) :
    PE X (.Call (.Name x p) (e :: es) [] pos) (cE C W fun ρ Q E => ws ρ (fun ds => ds.length = n ∧ sp ds Q E) E) :=
  (pe_callG Fn hr hgd hg hm hk hb (fun σ => passAt tk σ) ha hdb h1 hpl).imp fun σ H Q ⟨F, ρ, Qv, Ev, rel, q, k, ex⟩ => ⟨F, ρ, _, Ev, rel, q, fun vs ds F1 H1 x1 hds q1 =>
    ⟨F1, ds, Qv, Ev, by rw [hds.length]; exact q1.1, (rel.ext hs x1).dom, (rel.ext hs x1).tabs, hds, q1.2, fun _ v d F2 H2 x2 hd q2 => k v d F2 H2 (x1.trans x2) hd q2, fun _ z => (nomatch z), fun cls dx F2 H2 y x2 r q2 => ex cls dx F2 H2 y (x1.trans x2) r q2⟩, ex⟩
theorem vf_call (hs : SrcStays C) {m : Nat} (Fn : FnG X.prog X.w X.K X.mg X.base kk f fd ps (spV C n (m + 1) sp)) (hr : Room kk X.A) (hgd : X.A.guards = some []) (hg : Gl X x) (hm : X.mg x = some (.ref f)) (hk : PySem.W.keepIn X.K (.ref f) = true) (hb : Binds X.K fd ps []) (tk : Takes X W)
    (ha : PA X (e :: es) (cA C W ws)) (hdb : (x == ("__debug__" : Str)) = false) (h1 : starEach (e :: es) X.env = (false, eval e X.env) :: starEach es X.env) (hpl : (backTo pos (starEach es X.env)).any (·.1) = false) :
    PE X (.Call (.Name x p) (e :: es) [] pos) (cF C W (m + 1) fun ρ Q E => ws ρ (fun ds => ds.length = n ∧ sp ds Q E) E) :=
  (pe_callG Fn hr hgd hg hm hk hb (fun σ => passAt tk σ) ha hdb h1 hpl).imp fun σ H Q ⟨F, ρ, Qv, Ev, rel, q, k, ex⟩ => ⟨F, ρ, _, Ev, rel, q, fun vs ds F1 H1 x1 hds q1 =>
    ⟨F1, ds, Qv, Ev, by rw [hds.length]; exact q1.1, (rel.ext hs x1).dom, (rel.ext hs x1).tabs, hds, q1.2, (fun z => nomatch z), fun k' z => by
      cases z
      intro a d F2 H2 x2 ho nd lv q2
      refine k a d F2 H2 (x1.trans x2) ho nd (fun b hb => ?_) q2
      obtain ⟨h1, h2, h3⟩ := lv b hb
      refine ⟨h1, ?_, h3⟩
      cases e : H b with
      | none => rfl
      | some o =>
        obtain ⟨o', h'⟩ := x1.trk b o e
        rw [h'] at h2; exact (nomatch h2), fun cls dx F2 H2 y x2 r q2 => ex cls dx F2 H2 y (x1.trans x2) r q2⟩, ex⟩
end

/-! ### a def's body -/
def startT (N : List Str) (ds : List T) : Rho := ds.map Slot.sh ++ List.replicate (N.length - ds.length) .un
theorem relS_start {C : Ctx} {F : Addr → Prop} {H : Hp} {N : List Str} {vs : List V} {ds : List T} (h : Ds C H F vs ds) (dm : ∀ b, F b → ∃ o, H b = some o) (tb : ∀ p ∈ C.tabs, LamX.TabS H p.1 p.2) : RelS C F H (startT N ds) (L2.start N vs) := by
  have hl := h.length
  have no : ∀ i b, ¬ b ∈ ownI H (startT N ds) (L2.start N vs) i := fun i b hb => by
    unfold ownI startT at hb
    rw [List.getD_eq_getElem?_getD] at hb
    by_cases hi : i < ds.length
    · rw [List.getElem?_append_left (by simpa using hi), List.getElem?_map, List.getElem?_eq_getElem hi] at hb
      cases hb
    · rw [List.getElem?_append_right (by simpa using Nat.le_of_not_lt hi), List.getElem?_replicate] at hb
      split at hb <;> cases hb
  refine ⟨by simp [startT, L2.start, hl], fun i s hi => ?_, fun i j b h1 _ => (no i b h1).elim, fun i => ?_, fun i b hb => (no i b hb).elim, dm, tb⟩
  · unfold startT at hi
    by_cases hlt : i < ds.length
    · rw [List.getElem?_append_left (by simpa using hlt), List.getElem?_map, List.getElem?_eq_getElem hlt] at hi
      cases hi
      obtain ⟨v, hv, dv⟩ := h.get (List.getElem?_eq_getElem hlt)
      refine ⟨v, ?_, dv⟩
      unfold L2.start
      rw [List.getD_eq_getElem?_getD, List.getElem?_append_left (by rw [List.length_map, hl]; exact hlt), List.getElem?_map, hv]
      rfl
    · rw [List.getElem?_append_right (by simpa using Nat.le_of_not_lt hlt), List.getElem?_replicate] at hi
      split at hi
      · cases hi; trivial
      · cases hi
  · cases q : ownI H (startT N ds) (L2.start N vs) i with
    | nil => exact List.nodup_nil
    | cons b l => exact (no i b (by rw [q]; exact List.mem_cons_self)).elim
/-- THE RULE: a def keeps its word -/
theorem fn_ok {P : Program} {w : World} {mg : Str → Option Value} {base : Heap} {C : Ctx} (hs : SrcStays C) {x qual : Str} {st : Stmt} {f : Addr} {fd : FuncData} {N ps : List Str} {k n fr : Nat} {sp : VSp} {wb : WS}
    (F : Fun C.K x qual st f fd) (S : FnScope N ps (defScope st)) (hn : ps.length = n)
    (hb : ∀ (cdv : Value), fd.code = cdv → ∀ (A : Around) (outer : List Env) (s : Shared) (H : Hp) (E : XK), Room k (A.deeper (envOfC qual (defScope st) s.heap.objs.size f cdv)) → (A.deeper (envOfC qual (defScope st) s.heap.objs.size f cdv)).guards = some [] →
      PSs (cxOf (L2.CX P w) P w C.K mg base N qual (defScope st) f cdv A outer s H E) (defBody st) (cS C (fun cls d _ H => E cls d H) wb))
    (h : ∀ ds Q E, ds.length = n → sp ds Q E → wb (startT N ds) { nx := fun _ => fr = 0 ∧ Q .non, rt := fun m d => (fr = 0 ∨ m = fr) ∧ Q d, ex := fun _ x => E x }) : FnG P w C.K mg base (k + 1) f fd ps (spV C n fr sp) := by
  refine okG F S (fun vs H Q E ⟨_, _, _, _, h, _⟩ => h.trans hn.symm) fun cdv hcv A outer s H vs Q E hr hgd h1 => ⟨_, hb cdv hcv A outer s H E hr hgd, ?_⟩
  obtain ⟨F0, ds, Qv, Ev, hl, dm, tb, hds, hsp, r0, rk, ex⟩ := h1
  have rel := relS_start (N := N) hds dm tb
  have ext : ∀ {F' : Addr → Prop} {H' : Hp}, Base C (fun _ => False) F0 H F' H' → (∀ b, F' b → ∃ o, H' b = some o) → Ext C F0 H F' H' := fun b d => b.toExt d
  refine ⟨fun _ => False, F0, H, F0, _, _, ⟨rel, .refl, fun i b hb => ?_⟩, h ds Qv Ev (hds.length.symm.trans hl) hsp, ?_⟩
  · exfalso
    unfold ownI startT at hb
    rw [List.getD_eq_getElem?_getD] at hb
    by_cases hi : i < ds.length
    · rw [List.getElem?_append_left (by simpa using hi), List.getElem?_map, List.getElem?_eq_getElem hi] at hb
      cases hb
    · rw [List.getElem?_append_right (by simpa using Nat.le_of_not_lt hi), List.getElem?_replicate] at hb
      split at hb <;> cases hb
  · refine ⟨fun ρ σ F1 H1 s1 q => r0 q.1 .non .non F1 H1 (ext s1.base s1.rel.dom) .non q.2, fun _ _ _ _ _ q => q.elim, fun _ _ _ _ _ q => q.elim, fun v d F1 H1 b dm1 hd q => ?_, fun m a d F1 H1 b dm1 ho nd lv q => ?_, fun cls dx ρ σ F1 H1 y s1 r q => ex cls dx F1 H1 y (ext s1.base s1.rel.dom) r q⟩
    · rcases q.1 with z | z
      · exact r0 z v d F1 H1 (ext b dm1) hd q.2
      · exact r0 z.symm v d F1 H1 (ext b dm1) hd q.2
    · have lv' : ∀ c ∈ owned H1 (m + 1) a, ¬ F1 c ∧ H c = none ∧ ∃ o, H1 c = some o ∧ LD o := fun c hc => by
        obtain ⟨z, h2, h3⟩ := lv c hc
        exact ⟨h2, z.resolve_right id, h3⟩
      rcases q.1 with z | z
      · obtain ⟨F2, x2, hd⟩ := share hs (ext b dm1) ho lv'
        exact r0 z _ _ F2 H1 x2 hd q.2
      · exact rk m z.symm a d F1 H1 (ext b dm1) ho nd lv' q.2
end L3

/-! L3ja: defs by what they make of arguments by place; defs with a star; lambdas. -/
namespace L3
open PySem PySem.Spec PyProof.Rows L2

structure FnInfo where
  n : Nat
  fr : Nat
  sp : VSp
/-- n below 100: so many arguments; else n - 100 and then a star -/
def wArgs (i : FnInfo) (ds : List T) (Q : T → Prop) (E : Ex → Prop) : Prop :=
  if i.n < 100 then ds.length = i.n ∧ i.sp ds Q E else i.n - 100 ≤ ds.length ∧ ds.length ≤ sizeLine ∧ i.sp (ds.take (i.n - 100) ++ [.tup (ds.drop (i.n - 100))]) Q E
def spI (C : Ctx) (i : FnInfo) : Sp := fun vs H Q E => ∃ F ds Qv Ev, (∀ b, F b → ∃ o, H b = some o) ∧ (∀ p ∈ C.tabs, LamX.TabS H p.1 p.2) ∧ Ds C H F vs ds ∧ wArgs i ds Qv Ev ∧
  (i.fr = 0 → ∀ v d F' H', Ext C F H F' H' → D C H' F' v d → Qv d → Q v H') ∧
  (∀ k, i.fr = k + 1 → ∀ a d F' H', Ext C F H F' H' → OwnAt C H' F' (k + 1) a d → (owned H' (k + 1) a).Nodup → (∀ b ∈ owned H' (k + 1) a, ¬ F' b ∧ H b = none ∧ ∃ o, H' b = some o ∧ LD o) → Qv d → Q (.ref a) H') ∧
  (∀ cls dx F' H' x, Ext C F H F' H' → ExR C F' H' cls dx x → Ev x → E cls dx H')
structure FnP (P : Program) (w : World) (K : PySem.W.Frag) (mg : Str → Option Value) (base : Heap) (k : Nat) (f : Addr) (sp : Sp) : Prop where
  run : ∀ (A : Around) (outer : List Env) (s : Shared) (H : Hp) (us : List Value) (vs : List V) (Q : VK) (E : XK), Room k A → A.guards = some [] → Env0 P w K mg base A outer s H → Vals vs us → sp vs H Q E →
    codeAny (model P w) A (.call (.ref f) ⟨us, []⟩) (CR (L2.CX P w) outer P w H s Q E) s
section
variable {P : Program} {w : World} {K : PySem.W.Frag} {mg : Str → Option Value} {base : Heap} {j k : Nat} {f : Addr} {fd : FuncData} {ps : List Str} {sp sp' : Sp} {C : Ctx} {i : FnInfo}
theorem FnP.mono (F : FnP P w K mg base j f sp) (h : j ≤ k) : FnP P w K mg base k f sp := ⟨fun A outer s H us vs Q E hr => F.run A outer s H us vs Q E (hr.mono h)⟩
theorem FnP.imp (F : FnP P w K mg base k f sp) (h : ∀ vs H Q E, sp' vs H Q E → sp vs H Q E) : FnP P w K mg base k f sp' := ⟨fun A outer s H us vs Q E hr hg he hv hs => F.run A outer s H us vs Q E hr hg he hv (h _ _ _ _ hs)⟩
theorem FnG.pos (F : FnG P w K mg base k f fd ps sp) (hb : Binds K fd ps []) : FnP P w K mg base k f sp := ⟨fun A outer s H us vs Q E hr hg he r hs => by
  have hl : us.length = ps.length := by rw [← r.length]; exact F.len _ _ _ _ hs
  have b := hb s us (he.mod.kin.keeps fun b o e => (he.bs b o e).1) (by rw [List.append_nil]; exact hl)
  rw [List.append_nil] at b
  exact F.run A outer s H ⟨us, []⟩ us vs Q E hr hg he b r hs⟩
theorem FnP.info (F : FnP P w K mg base k f (spV C i.n i.fr i.sp)) (h : i.n < 100) : FnP P w K mg base k f (spI C i) := F.imp fun vs H Q E ⟨F0, ds, Qv, Ev, dm, tb, hds, wa, r⟩ => by
  unfold wArgs at wa
  rw [if_pos h] at wa
  exact ⟨F0, ds, Qv, Ev, hds.length.trans wa.1, dm, tb, hds, wa.2, r⟩
end
section
variable {X : Cx} {C : Ctx} {W : WX} {k : Nat} {f : Addr} {sp : Sp} {E : L2.St → XK} {x : Str} {p pos spos : Pos} {e : Expr} {es : List Expr} {t : TA} {te : TE} {pins : List (Addr × Obj)} {σ : L2.St} {H : Hp} {s : Shared} {Q : VK} {us : List Value} {vs : List V}
theorem run_fnP (F : FnP X.prog X.w X.K X.mg X.base k f sp) (hr : Room k X.A) (hgd : X.A.guards = some [])
    (hx : PassesAt (L2.CX X.prog X.w) X σ (E σ)) (I : Inv X pins σ H s) (r : Vals vs us) (h : sp vs H Q (E σ)) : wpAny (model X.prog X.w) X.A (call (.ref f) us) (EP X pins σ Q) X.xe s := by
  refine wpAny_call (codeAny_mono (F.run X.A X.stack s H us vs Q (E σ) hr hgd I.env0 r h) fun r s' hq => ?_)
  cases r with
  | error e => exact hx pins H s e s' I hq
  | ok fl =>
    cases fl with
    | ret u => exact I.after hq
    | next => exact False.elim hq
    | brk => exact False.elim hq
    | cont => exact False.elim hq
theorem pe_callP (F : FnP X.prog X.w X.K X.mg X.base k f sp) (hr : Room k X.A) (hgd : X.A.guards = some []) (hg : Gl X x) (hm : X.mg x = some (.ref f)) (hk : PySem.W.keepIn X.K (.ref f) = true)
    (hx : ∀ σ, PassesAt (L2.CX X.prog X.w) X σ (E σ)) (ha : PA X (e :: es) t) (hdb : (x == ("__debug__" : Str)) = false) (he : starEach (e :: es) X.env = (false, eval e X.env) :: starEach es X.env) (hpl : (backTo pos (starEach es X.env)).any (·.1) = false) :
    PE X (.Call (.Name x p) (e :: es) [] pos) (tCallS sp E t) := by
  refine ⟨fun pins s σ H Q I h => ?_⟩
  refine wpAny_Call_Name_kw (ld_glob I hg hm ?_ hdb)
  refine PySem.W.callWith_K (h₀ := X.base) I.ok.mod.kin hk (thn (ha.run pos pins s σ H _ I h) fun us s1 ⟨vs, H1, I1, r, q⟩ => ⟨I1.kIn, ?_⟩) he hpl
  exact run_fnP F hr hgd (hx σ) I1 r q
/-- x(*y) -/
theorem pe_callPS (F : FnP X.prog X.w X.K X.mg X.base k f sp) (hr : Room k X.A) (hgd : X.A.guards = some []) (hg : Gl X x) (hm : X.mg x = some (.ref f)) (hk : PySem.W.keepIn X.K (.ref f) = true)
    (hx : ∀ σ, PassesAt (L2.CX X.prog X.w) X σ (E σ)) (he : PE X e te) (hdb : (x == ("__debug__" : Str)) = false) (hst : starEach [.Starred e spos] X.env = [(true, eval e X.env)] := by rfl) :
    PE X (.Call (.Name x p) [.Starred e spos] [] pos) (fun σ H Q => te σ H fun y H1 => ∃ a xs, y = V.ref a ∧ (SqT X.K H1 a xs ∨ SqL X.K H1 a xs) ∧ sp xs H1 Q (E σ)) := by
  refine ⟨fun pins s σ H Q I h => ?_⟩
  refine wpAny_Call_Name_kw (ld_glob I hg hm ?_ hdb)
  refine PySem.W.callWith_S (h₀ := X.base) I.ok.mod.kin hk (thn (he.run pins s σ H _ I h) fun v s1 ⟨y, H1, I1, ry, a, xs, ey, hxs, q⟩ => ?_) hst
  subst ey
  obtain rfl : v = Value.ref a := ry
  exact StX.star_any I1 hxs fun us s2 I2 rv => ⟨I2.kIn, run_fnP F hr hgd (hx σ) I2 rv q⟩
end
section
variable {X : Cx} {C : Ctx} {W : WX} {kk : Nat} {f : Addr} {i : FnInfo} {x : Str} {p pos spos : Pos} {e : Expr} {es : List Expr} {ws : WA} {wa : WE}
theorem none_bk {F F1 : Addr → Prop} {H H1 : Hp} (x1 : Ext C F H F1 H1) {b : Addr} (h2 : H1 b = none) : H b = none := by
  cases e : H b with
  | none => rfl
  | some o =>
    obtain ⟨o', h'⟩ := x1.trk b o e
    rw [h'] at h2; exact (nomatch h2)
theorem ve_callI (hs : SrcStays C) (Fn : FnP X.prog X.w X.K X.mg X.base kk f (spI C i)) (h0 : i.fr = 0) (hr : Room kk X.A) (hgd : X.A.guards = some []) (hg : Gl X x) (hm : X.mg x = some (.ref f)) (hk : PySem.W.keepIn X.K (.ref f) = true) (tk : Takes X W)
    (ha : PA X (e :: es) (cA C W ws)) (hdb : (x == ("__debug__" : Str)) = false) (h1 : starEach (e :: es) X.env = (false, eval e X.env) :: starEach es X.env) (hpl : (backTo pos (starEach es X.env)).any (·.1) = false) :
    PE X (.Call (.Name x p) (e :: es) [] pos) (cE C W fun ρ Q E => ws ρ (fun ds => wArgs i ds Q E) E) :=
  (pe_callP Fn hr hgd hg hm hk (fun σ => passAt tk σ) ha hdb h1 hpl).imp fun σ H Q ⟨F, ρ, Qv, Ev, rel, q, k, ex⟩ => ⟨F, ρ, _, Ev, rel, q, fun vs ds F1 H1 x1 hds q1 =>
    ⟨F1, ds, Qv, Ev, (rel.ext hs x1).dom, (rel.ext hs x1).tabs, hds, q1, fun _ v d F2 H2 x2 hd q2 => k v d F2 H2 (x1.trans x2) hd q2, fun _ z => by (rw [h0] at z; cases z), fun cls dx F2 H2 y x2 r q2 => ex cls dx F2 H2 y (x1.trans x2) r q2⟩, ex⟩
theorem vf_callI (hs : SrcStays C) {m : Nat} (Fn : FnP X.prog X.w X.K X.mg X.base kk f (spI C i)) (h0 : i.fr = m + 1) (hr : Room kk X.A) (hgd : X.A.guards = some []) (hg : Gl X x) (hm : X.mg x = some (.ref f)) (hk : PySem.W.keepIn X.K (.ref f) = true) (tk : Takes X W)
    (ha : PA X (e :: es) (cA C W ws)) (hdb : (x == ("__debug__" : Str)) = false) (h1 : starEach (e :: es) X.env = (false, eval e X.env) :: starEach es X.env) (hpl : (backTo pos (starEach es X.env)).any (·.1) = false) :
    PE X (.Call (.Name x p) (e :: es) [] pos) (cF C W (m + 1) fun ρ Q E => ws ρ (fun ds => wArgs i ds Q E) E) :=
  (pe_callP Fn hr hgd hg hm hk (fun σ => passAt tk σ) ha hdb h1 hpl).imp fun σ H Q ⟨F, ρ, Qv, Ev, rel, q, k, ex⟩ => ⟨F, ρ, _, Ev, rel, q, fun vs ds F1 H1 x1 hds q1 =>
    ⟨F1, ds, Qv, Ev, (rel.ext hs x1).dom, (rel.ext hs x1).tabs, hds, q1, (fun z => by (rw [h0] at z; cases z)), fun k' z => by
      obtain rfl : m = k' := by rw [h0] at z; omega
      intro a d F2 H2 x2 ho nd lv q2
      exact k a d F2 H2 (x1.trans x2) ho nd (fun b hb => ⟨(lv b hb).1, none_bk x1 (lv b hb).2.1, (lv b hb).2.2⟩) q2, fun cls dx F2 H2 y x2 r q2 => ex cls dx F2 H2 y (x1.trans x2) r q2⟩, ex⟩
/-- x(*y) -/
theorem ve_callIS (hs : SrcStays C) (hK : X.K = C.K) (Fn : FnP X.prog X.w X.K X.mg X.base kk f (spI C i)) (hr : Room kk X.A) (hgd : X.A.guards = some []) (hg : Gl X x) (hm : X.mg x = some (.ref f)) (hk : PySem.W.keepIn X.K (.ref f) = true) (tk : Takes X W)
    (he : PE X e (cE C W wa)) (hdb : (x == ("__debug__" : Str)) = false) :
    PE X (.Call (.Name x p) [.Starred e spos] [] pos) (cE C W fun ρ Q E => wa ρ (fun d => ∃ ds, (d = .lst ds ∨ d = .tup ds) ∧ wArgs i ds Q E) E) :=
  (pe_callPS Fn hr hgd hg hm hk (fun σ => passAt tk σ) he hdb).imp fun σ H Q ⟨F, ρ, Qv, Ev, rel, q, k, ex⟩ => ⟨F, ρ, _, Ev, rel, q, fun v d F1 H1 x1 hd ⟨ds, ed, q1⟩ => by
    have fin : ∀ {vs : List V}, Ds C H1 F1 vs ds → spI C i vs H1 Q (fun cls d H => W cls d σ H) := fun hds => ⟨F1, ds, Qv, Ev, (rel.ext hs x1).dom, (rel.ext hs x1).tabs, hds, q1, fun _ v d F2 H2 x2 hd q2 => k v d F2 H2 (x1.trans x2) hd q2, fun k' z a d F2 H2 x2 ho nd lv q2 => by
        obtain ⟨F3, x3, hd3⟩ := share hs (x1.trans x2) ho fun b hb => ⟨(lv b hb).1, none_bk x1 (lv b hb).2.1, (lv b hb).2.2⟩
        exact k _ _ F3 H2 x3 hd3 q2, fun cls dx F2 H2 y x2 r q2 => ex cls dx F2 H2 y (x1.trans x2) r q2⟩
    rcases ed with rfl | rfl
    · obtain ⟨a, xs, rfl, ha, fa, hx⟩ := hd.isL
      exact ⟨a, xs, rfl, .inr (.of ha), fin hx⟩
    · obtain ⟨a, xs, rfl, ha, hx⟩ := hd.isT
      exact ⟨a, xs, rfl, .inl (by rw [hK]; exact ha), fin hx⟩, ex⟩
end
/-- a def with a star keeps its word -/
theorem fn_okS {P : Program} {w : World} {mg : Str → Option Value} {base : Heap} {C : Ctx} (hs : SrcStays C) {x qual : Str} {st : Stmt} {f : Addr} {fd : FuncData} {N ps : List Str} {pv : Str} {k m fr : Nat} {sp : VSp} {wb : WS}
    (F : Fun C.K x qual st f fd) (S : FnScope N (ps ++ [pv]) (defScope st)) (hn : ps.length = m)
    (hbd : ∀ us rest : List Value, us.length = ps.length → bindArgs fd ⟨us ++ rest, []⟩ = (newTuple rest >>= fun t => pure (ps.zip us ++ [(pv, t)])))
    (hb : ∀ (cdv : Value), fd.code = cdv → ∀ (A : Around) (outer : List Env) (s : Shared) (H : Hp) (E : XK), Room k (A.deeper (envOfC qual (defScope st) s.heap.objs.size f cdv)) → (A.deeper (envOfC qual (defScope st) s.heap.objs.size f cdv)).guards = some [] →
      PSs (cxOf (L2.CX P w) P w C.K mg base N qual (defScope st) f cdv A outer s H E) (defBody st) (cS C (fun cls d _ H => E cls d H) wb))
    (h : ∀ ds Q E, ds.length = m + 1 → sp ds Q E → wb (startT N ds) { nx := fun _ => fr = 0 ∧ Q .non, rt := fun m d => (fr = 0 ∨ m = fr) ∧ Q d, ex := fun _ x => E x }) : FnP P w C.K mg base (k + 1) f (spI C ⟨m + 100, fr, sp⟩) := by
  obtain ⟨oc, od, kV, doc, pm, an, cdv, ct, osl, rfl, lk, hcd⟩ := F.ex
  refine ⟨fun A outer s H us vs Q E hr hgd e0 r hsp => ?_⟩
  obtain ⟨F0, ds, Qv, Ev, dm, tb, hds, wa, r0, rk, ex⟩ := hsp
  unfold wArgs at wa
  rw [if_neg (by show ¬ m + 100 < 100; omega)] at wa
  obtain ⟨hm, hz, wa⟩ := wa
  have e100 : m + 100 - 100 = m := by omega
  dsimp only at hm wa
  rw [e100] at hm wa
  have hlv := hds.length
  obtain ⟨u1, u2, eu, r1, r2⟩ := StX.vals_split (ws := vs.take m) (rest := vs.drop m) (by rw [List.take_append_drop]; exact r)
  subst eu
  have hn0 : H s.heap.objs.size = Option.none := e0.hok.fresh (Nat.le_refl _)
  have hl1 : u1.length = ps.length := by rw [← r1.length, List.length_take, hn]; omega
  have hl2 : u2.length ≤ sizeLine := by rw [← r2.length, List.length_drop]; omega
  have hl3 : (vs.drop m).length ≤ sizeLine := by rw [List.length_drop]; omega
  have hl4 : (vs.take m).length = ps.length := by rw [List.length_take, hn]; omega
  refine StX.run_bnd lk hcd S hr e0 (G := fun xs H2 => ∃ p, H p = Option.none ∧ xs = vs.take m ++ [V.ref p] ∧ H2 = upd H p (.tup (vs.drop m))) (fun A' Ex Q' hh => ?_) fun s2 H2 xs ⟨p, hp, exx, eH⟩ hr' => ?_
  · rw [hbd u1 u2 hl1]
    refine wpAny_bind (wpAny_newTuple (wpAny_pure ?_) hl2)
    have new : ObjOk P w (upd H s.heap.objs.size (.tup (vs.drop m))) (s.heap.push ({ cls := .type "tuple", data := .seq u2.toArray } : Obj)) s.heap.objs.size (.tup (vs.drop m)) := ⟨hl3, u2, r2, ⟨_, Heap.get?_push_size _ rfl, rfl, _, rfl⟩⟩
    have un := StX.un_laid (fs := frs outer) (s := s) (o := ({ cls := .type "tuple", data := .seq u2.toArray } : Obj)) (u := .tup (vs.drop m)) hn0
    have z := hh _ _ (vs.take m ++ [V.ref s.heap.objs.size]) (u1 ++ [Value.ref s.heap.objs.size]) (StX.env0_laid e0 new) un rfl (fun e s' => StX.cxUp outer s H _ _ E e s' un (fun b o q => Heap.get?_push_of_some _ q) rfl) (r1.append (.cons rfl .nil))
      (by rw [List.length_append, List.length_append, hl4] <;> rfl) ⟨_, hn0, rfl, rfl⟩
    rw [List.zip_append hl1.symm] at z
    exact z
  · subst exx eH
    refine ⟨_, hb cdv rfl A outer s2 _ E hr' hgd, ?_⟩
    have x0 : Ext C F0 H F0 (upd H p (.tup (vs.drop m))) := .new_tup hp
    have hds' : Ds C (upd H p (.tup (vs.drop m))) F0 (vs.take m ++ [V.ref p]) (ds.take m ++ [.tup (ds.drop m)]) :=
      ((hds.take m).later hs x0.later).append (.cons (.tup (.of upd_same) ((hds.drop m).later hs x0.later)) .nil)
    have dm' : ∀ b, F0 b → ∃ o, upd H p (.tup (vs.drop m)) b = some o := fun b z => (dm b z).elim fun o ho => x0.trk b o ho
    have tb' : ∀ q ∈ C.tabs, LamX.TabS (upd H p (.tup (vs.drop m))) q.1 q.2 := fun q hq => x0.tab q hq (tb q hq)
    have rel := relS_start (N := N) hds' dm' tb'
    have ext : ∀ {F' : Addr → Prop} {H' : Hp}, Base C (fun _ => False) F0 (upd H p (.tup (vs.drop m))) F' H' → (∀ b, F' b → ∃ o, H' b = some o) → Ext C F0 H F' H' := fun b d => x0.trans (b.toExt d)
    refine ⟨fun _ => False, F0, _, F0, _, _, ⟨rel, .refl, fun i b hb' => ?_⟩, h _ Qv Ev (by rw [List.length_append, List.length_take, List.length_singleton]; omega) wa, ?_⟩
    · exfalso
      unfold ownI startT at hb'
      rw [List.getD_eq_getElem?_getD] at hb'
      by_cases hi : i < (ds.take m ++ [T.tup (ds.drop m)]).length
      · rw [List.getElem?_append_left (by simpa using hi), List.getElem?_map, List.getElem?_eq_getElem hi] at hb'
        cases hb'
      · rw [List.getElem?_append_right (by simpa using Nat.le_of_not_lt hi), List.getElem?_replicate] at hb'
        split at hb' <;> cases hb'
    · refine ⟨fun ρ σ F1 H1 s1 q => r0 q.1 .non .non F1 H1 (ext s1.base s1.rel.dom) .non q.2, fun _ _ _ _ _ q => q.elim, fun _ _ _ _ _ q => q.elim, fun v d F1 H1 b dm1 hd q => ?_, fun m' a d F1 H1 b dm1 ho nd lv q => ?_, fun cls dx ρ σ F1 H1 y s1 r q => ex cls dx F1 H1 y (ext s1.base s1.rel.dom) r q⟩
      · rcases q.1 with z | z
        · exact r0 z v d F1 H1 (ext b dm1) hd q.2
        · exact r0 z.symm v d F1 H1 (ext b dm1) hd q.2
      · have lv' : ∀ c ∈ owned H1 (m' + 1) a, ¬ F1 c ∧ H c = none ∧ ∃ o, H1 c = some o ∧ LD o := fun c hc => by
          obtain ⟨z, h2, h3⟩ := lv c hc
          exact ⟨h2, none_bk x0 (z.resolve_right id), h3⟩
        rcases q.1 with z | z
        · obtain ⟨F2, x2, hd⟩ := share hs (ext b dm1) ho lv'
          exact r0 z _ _ F2 H1 x2 hd q.2
        · exact rk m' z.symm a d F1 H1 (ext b dm1) ho nd lv' q.2
end L3

/-! L3jb: sorted(xs, key=lambda x: ..), the keys texts. -/
namespace L3
open PySem PySem.Spec PyProof.Rows L2 PySem.W

/-- the items sorted by their keys, stable -/
def sortT (key : T → Str) (ds : List T) : List T := ds.mergeSort (dataLe false fun d => PyData.str (key d))

section
variable {X : Cx} {C : Ctx} {pins : List (Addr × Obj)} {σ : L2.St} {H : Hp} {s : Shared} {F0 F F' : Addr → Prop} {H0 H' : Hp}
theorem Ext.write_new {p : Addr} {o o' : HO} (x : Ext C F0 H0 F H) (n : H0 p = none) (h : H p = some o) (lo : LD o) : Ext C F0 H0 F (upd H p o') :=
  ⟨fun b u e nt => by rw [upd_ne (ne_of_none e n)]; exact x.same b u e nt, x.fz, fun b z => (x.new b z).imp id fun ⟨e1, u, e2⟩ => ⟨e1, by
      by_cases e : b = p
      · exact ⟨_, by rw [e, upd_same]⟩
      · exact ⟨u, by rw [upd_ne e]; exact e2⟩⟩, fun b u e => by rw [upd_ne (ne_of_none e n)]; exact x.trk b u e, fun q hq t => tabS_write (x.tab q hq t) h lo⟩
/-- an object as it stands -/
def ExactO (a : Addr) (o : Obj) : HO := .ext fun h => h.get? a = some o
theorem exact_ok {P : Program} {w : World} {h : Heap} {a : Addr} {o : Obj} (e : h.get? a = some o) : ObjOk P w H h a (ExactO a o) := ⟨e, ⟨o, e⟩, fun _ _ z k => k _ z⟩
theorem exact_get (hok : HOk X.prog X.w H s.heap) {a : Addr} {o : Obj} (e : H a = some (ExactO a o)) : s.heap.get? a = some o := (hok a _ e).1

/-- behind the sort: the key store is forgotten, the list's items are told -/
theorem inv_sorted {h' : Heap} {t' : Nat} {a kS : Addr} {oa : Obj} {xs ys : List V} (I : Inv X pins σ H s) (ha : H a = some (ExactO a oa)) (hk : H kS = some (.lst xs)) (hnew : X.s_0.heap.objs.size ≤ kS) (hpin : ∀ p ∈ X.pn ++ pins, p.1 ≠ kS)
    (hc : ∀ x c, X.env.cells.lookup x = some c → c ≠ kS) (hL : kS ≠ X.env.locals) (keep : ∀ b o, b ≠ a → b ≠ kS → s.heap.get? b = some o → h'.get? b = some o) (new : ObjOk X.prog X.w (fun b => if b = kS then none else upd H a (.lst ys) b) h' a (.lst ys)) :
    Inv X pins σ (fun b => if b = kS then none else upd H a (.lst ys) b) { s with heap := h', toks := t' } := by
  have hak : a ≠ kS := ne_of ha hk fun z => nomatch z
  have at_ : ∀ b, b ≠ a → b ≠ kS → (if b = kS then none else upd H a (.lst ys) b) = H b := fun b h1 h2 => by rw [if_neg h2, upd_ne h1]
  have sm : ∀ b u, H b = some u → u ≠ ExactO a oa → (∀ ls, u ≠ .lst ls) → (if b = kS then none else upd H a (.lst ys) b) = some u := fun b u e n1 n2 => by
    rw [at_ b (ne_of e ha n1) (ne_of e hk (n2 _))]; exact e
  refine I.step (g' := s.gens) (d' := s.drawn) (ch := [kS]) (fun b hb => ?_) (fun b o _ _ hb e n => keep b o (fun z => by rw [z, ha] at n; cases n) (fun z => hb (by simp [z])) e)
    (fun b o _ _ hb e n => ⟨o.slots, keep b o (fun z => by rw [z, ha] at n; cases n) (fun z => hb (by simp [z])) e⟩) (fun b o hb e n => ?_) (fun b o hb e => ?_) (fun b ls e => sm b _ e (fun z => nomatch z) fun _ z => nomatch z) (fun b o u e => sm b _ e (fun z => nomatch z) fun _ z => nomatch z)
    (fun b ps e => ⟨#[], by rw [sm b _ e (fun z => nomatch z) fun _ z => nomatch z]; simp⟩) (fun m hm => ?_) (fun b u e => ?_) I.bare
  · have e : b = kS := by simpa using hb
    subst e
    exact ⟨.inr hnew, hL, hc, hpin⟩
  · rw [at_ b (fun z => by rw [z, ha] at n; cases n) (fun z => hb (by simp [z]))]; exact n
  · by_cases h1 : b = a
    · subst h1
      exact ⟨_, new.2.choose_spec.choose_spec.2⟩
    · exact ⟨o, keep b o h1 (fun z => hb (by simp [z])) e⟩
  · obtain ⟨o, es, ep, ho, r⟩ := hm
    exact ⟨o, es, ep, keep _ o (fun z => by have := I.free; rw [z, ha] at this; cases this) hL.symm ho, r⟩
  · by_cases h1 : b = kS
    · rw [if_pos h1] at e; cases e
    · by_cases h2 : b = a
      · subst h2
        rw [if_neg h1, upd_same] at e
        cases e
        exact new
      · rw [at_ b h2 h1] at e
        refine (I.hok b u e).stay (fun c v hc q => keep c v ?_ ?_ q) (fun c q => sm c _ q (fun z => nomatch z) fun _ z => nomatch z) fun c ls q => sm c _ q (fun z => nomatch z) fun _ z => nomatch z
        · rcases hc with z | z
          · rw [z]; exact h2
          · exact ne_of z ha fun z => nomatch z
        · rcases hc with z | z
          · rw [z]; exact h1
          · exact ne_of z hk fun z => nomatch z

theorem reads_str {h : Heap} {x : Str} {t : Tok} : Reads h (.str x t) (.str x) [] := .str x t
theorem vals_each {ks : List Str} {us : List Value} {h : Heap} (r : Vals (ks.map V.str) us) : EachIs (fun v d => ∃ as, Reads h v d as) us (ks.map PyData.str) := by
  induction ks generalizing us with
  | nil => cases r; exact .nil
  | cons k ks ih =>
    cases r with
    | cons r t =>
      obtain ⟨tk, rfl⟩ := r
      exact .cons ⟨[], .str k tk⟩ (ih t)
theorem strs_alike {ks : List Str} : AllAlike (ks.map PyData.str) := fun d hd d' hd' => by
  obtain ⟨x, _, rfl⟩ := List.mem_map.mp hd
  obtain ⟨y, _, rfl⟩ := List.mem_map.mp hd'
  rfl
theorem strs_sortable {ks : List Str} : Sortable (ks.map PyData.str) := .inr fun d hd => by
  obtain ⟨x, _, rfl⟩ := List.mem_map.mp hd
  exact ⟨(fun z => by cases z), fun _ z => by cases z⟩
theorem Ds.split_zip {vs : List V} {ds : List T} (h : Ds C H F vs ds) : ∀ p ∈ vs.zip ds, D C H F p.1 p.2 := by
  induction vs generalizing ds with
  | nil => intro p hp; simp at hp
  | cons v vs ih =>
    cases h with
    | cons h1 h2 =>
      intro p hp
      rcases List.mem_cons.mp hp with rfl | hp
      · exact h1
      · exact ih h2 p hp
theorem Ds.of_zip : ∀ {zs : List (V × T)}, (∀ p ∈ zs, D C H F p.1 p.2) → Ds C H F (zs.map Prod.fst) (zs.map Prod.snd)
  | [], _ => .nil
  | z :: zs, h => .cons (h z List.mem_cons_self) (Ds.of_zip fun p hp => h p (List.mem_cons_of_mem _ hp))
theorem each_vals : ∀ {us : List Value} {zs : List (V × T)}, EachIs (fun u p => RelV p.1 u) us zs → Vals (zs.map Prod.fst) us
  | _, _, .nil => .nil
  | _, _, .cons h t => .cons h (each_vals t)
theorem each_zip : ∀ {us : List Value} {vs : List V} {ds : List T}, Vals vs us → vs.length = ds.length → EachIs (fun u (p : V × T) => RelV p.1 u) us (vs.zip ds)
  | _, _, [], .nil, _ => .nil
  | _, _, d :: ds, .cons h t, hl => .cons h (each_zip t (by simpa using hl))
  | _, _, _ :: _, .nil, hl => nomatch hl
  | _, _, [], .cons _ _, hl => nomatch hl

/-- THE RUN: f's calls give the keys -/
theorem sortK_run {F0 : Addr → Prop} {H0 : Hp} {s : Shared} {q : Addr} {l : Addr} {xs : List V} {ds : List T} {key : T → Str} {Q : VK} (hs : SrcStays C) (hK : X.K = C.K) (I : Inv X pins σ H0 s) (hl : SqL X.K H0 l xs) (hd : Ds C H0 F0 xs ds) (dm : ∀ b, F0 b → ∃ o, H0 b = some o)
    (hu : X.A.units + 2 < cLine)
    (turn : ∀ (H : Hp) (s' : Shared) (F : Addr → Prop) (v : V) (d : T) (u : Value), Inv X pins σ H s' → Ext C F0 H0 F H → D C H F v d → d ∈ ds → RelV v u →
      wpAny (model X.prog X.w) X.A.in1.in1 (call (.ref q) [u]) (fun k s'' => ∃ F' H', Inv X pins σ H' s'' ∧ Ext C F H F' H' ∧ RelV (.str (key d)) k) (fun _ _ => False) s')
    (fin : ∀ p ys F' H', Ext C F0 H0 F' H' → H' p = some (.lst ys) → H0 p = none → ¬ F' p → (∀ b, F' b → ∃ o, H' b = some o) → Ds C H' F' ys (sortT key ds) → Q (.ref p) H') :
    wpAny (model X.prog X.w) X.A (call (.builtin "sorted") [.ref l] [(Str.ofString "key", .ref q)]) (EP X pins σ Q) X.xe s := by
  obtain ⟨its, rv, pl, hz⟩ := I.list hl
  have hlen := rv.length
  have hdl := hd.length
  have hz' : its.length ≤ sizeLine := by rw [← hlen]; exact hz
  refine sorted_of_sort pl.isList hz' (ksk_s1 _ _) (fun _ => ksk_l1 _ _) fun E' => ?_
  rw [ksk_t1]
  have hcs : (copyHeap s.heap its).objs.size = s.heap.objs.size + 2 := by
    unfold copyHeap
    rw [Heap.size_push, Heap.size_update, Heap.size_push]
  generalize ea : s.heap.objs.size + 1 = a
  have ho : (copyHeap s.heap its).get? a = some (seqObj "list" its.toArray 0) := by rw [← ea]; exact copyHeap_at _ _
  obtain ⟨e1, ho1⟩ : ∃ e1, ((copyHeap s.heap its).update a (Obj.mapSeq fun _ => (#[] : Array Value))).get? a = some (seqObj "list" #[] e1) := ⟨_, get?_update_seq ho fun _ => #[]⟩
  unfold ksk_tree
  refine wpAny_bind (listItems_at (s := { s with heap := copyHeap s.heap its }) ho rfl ?_)
  refine wpAny_bind (listUpdate_at (s := { s with heap := copyHeap s.heap its }) ho rfl ?_ (by rw [List.size_toArray]; exact hz') (Nat.zero_le _))
  refine wpAny_bind (seqEpoch_at ho1 rfl ?_)
  refine wpAny_bind (wpAny_newTuple ?_ (by show its.length ≤ _; exact hz'))
  refine wpAny_bind (wpAny_newList ?_ (Nat.zero_le _))
  refine wpAny_holding ?_
  -- the state the keys are made from
  generalize eh1 : ((copyHeap s.heap its).update a (Obj.mapSeq fun _ => (#[] : Array Value))).push (seqObj "tuple" its.toArray 0) = h1
  have hs1 : h1.objs.size = s.heap.objs.size + 3 := by rw [← eh1, Heap.size_push, Heap.size_update, hcs]
  have k1 : ∀ b o, s.heap.get? b = some o → h1.get? b = some o := fun b o e => by
    rw [← eh1]
    refine Heap.get?_push_of_some _ ?_
    rw [Heap.get?_update_ne _ b a _ (Nat.ne_of_lt (Nat.lt_of_lt_of_le (Heap.lt_size e) (by omega)))]
    exact copyHeap_old e
  have ho2 : h1.get? a = some (seqObj "list" #[] e1) := by rw [← eh1]; exact Heap.get?_push_of_some _ ho1
  generalize ek : h1.objs.size = kS
  have I1 : Inv X pins σ (upd H0 a (ExactO a (seqObj "list" #[] e1))) { s with heap := h1, toks := s.toks } := I.laid k1 (by omega) (exact_ok ho2)
  have I2 : Inv X pins σ (upd (upd H0 a (ExactO a (seqObj "list" #[] e1))) kS (.lst [])) { s with heap := h1.push (seqObj "list" #[] 0), toks := s.toks } :=
    Inv.laid (s := { s with heap := h1, toks := s.toks }) I1 (fun b o e => Heap.get?_push_of_some _ e) (Nat.le_of_eq ek) ⟨Nat.zero_le _, [], 0, .nil, by rw [← ek]; exact Heap.get?_push_size _ rfl⟩
  have na : H0 a = none := I.hok.fresh (by omega)
  have nk : H0 kS = none := I.hok.fresh (by omega)
  have hak : a ≠ kS := by omega
  have nfa : ¬ F0 a := fun z => by obtain ⟨o, e⟩ := dm a z; rw [na] at e; cases e
  have nfk : ¬ F0 kS := fun z => by obtain ⟨o, e⟩ := dm kS z; rw [nk] at e; cases e
  have hnew : X.s_0.heap.objs.size ≤ kS := Nat.le_trans I.sz (by omega)
  have hpin : ∀ p ∈ X.pn ++ pins, p.1 ≠ kS := fun p hp => Nat.ne_of_lt (Nat.lt_of_lt_of_le (Heap.lt_size (I.pin p hp).1) (by omega))
  have hcell : ∀ x c, X.env.cells.lookup x = some c → c ≠ kS := fun x c e => by
    obtain ⟨v, o, e2, _⟩ := I.cell x c e
    exact Nat.ne_of_lt (Nat.lt_of_lt_of_le (Heap.lt_size e2) (by omega))
  have hL : kS ≠ X.env.locals := (Nat.ne_of_lt (Nat.lt_of_lt_of_le I.lt (by omega))).symm
  have x2 : Ext C F0 H0 F0 (upd (upd H0 a (ExactO a (seqObj "list" #[] e1))) kS (.lst [])) := (Ext.new_tup na).trans (.new_tup (by rw [upd_ne hak.symm]; exact nk))
  -- the keys, one by one
  unfold ksk_rest
  refine wpAny_bind (wpAny_rule ?_)
  first
    | rw [List.forIn_toArray]
    | (rw [← Array.forIn_toList]; simp only [List.toList_toArray])
    | rw [← Array.forIn_toList]
  refine wpAny_bind (ksk_fold (fun i s' => ∃ F H, Inv X pins σ H s' ∧ Ext C F0 H0 F H ∧ H kS = some (.lst (((ds.take i).map key).map V.str)) ∧ H a = some (ExactO a (seqObj "list" #[] e1)) ∧ ¬ F kS ∧ ¬ F a) its 0 _
    ⟨F0, _, I2, x2, upd_same, by rw [upd_ne hak, upd_same], nfk, nfa⟩ ?step ?done)
  case step =>
    rintro j u s' hx ⟨F, H, J, x, hk, ha, fk, fa⟩
    simp only [Nat.zero_add] at hk ⊢
    have hj : j < its.length := (List.getElem?_eq_some_iff.mp hx).1
    have hjx : j < xs.length := by rw [hlen]; exact hj
    have hjd : j < ds.length := by rw [← hdl]; exact hjx
    have hdj : ds[j]? = some ds[j] := List.getElem?_eq_getElem hjd
    obtain ⟨v, hv, dv⟩ := hd.get hdj
    obtain ⟨u', hu', ru⟩ := rv.get hv
    obtain rfl : u = u' := by rw [hx] at hu'; exact Option.some.inj hu'
    refine wpAny_bind (wpAny_attempt (wpAny_mono (turn H s' F v ds[j] u J x (dv.later hs x.later) (List.getElem_mem hjd) ru) (fun ku s'' he => ?_) fun _ _ hF => hF.elim))
    obtain ⟨F1, H1, J1, x1, rk⟩ := he
    have hk1 := x1.same kS _ hk fun _ z => nomatch z
    have ha1 := x1.same a _ ha fun _ z => nomatch z
    have fk1 : ¬ F1 kS := fun z => (x1.new kS z).elim fk fun ⟨e, _⟩ => by rw [hk] at e; cases e
    have fa1 : ¬ F1 a := fun z => (x1.new a z).elim fa fun ⟨e, _⟩ => by rw [ha] at e; cases e
    obtain ⟨hz1, kits, n, rks, ok⟩ := J1.hok kS _ hk1
    have hkl : kits.length = j := by
      rw [← rks.length, List.length_map, List.length_map, List.length_take]; omega
    try dsimp only
    refine wpAny_bind (listUpdate_at ok rfl ?_ (by rw [List.size_toArray, hkl]; omega) (Nat.le_trans (Nat.le_of_eq (Array.size_push ..)) (Nat.succ_le_succ (by rw [List.size_toArray, hkl]; omega))))
    obtain ⟨c2, hc2⟩ : ∃ c2, (s''.heap.update kS (Obj.mapSeq (·.push ku))).get? kS = some (seqObj "list" (kits.toArray.push ku) c2) := ⟨_, get?_update_seq ok (·.push ku)⟩
    have ek2 : (((ds.take (j + 1)).map key).map V.str) = ((ds.take j).map key).map V.str ++ [V.str (key ds[j])] := by
      rw [List.take_add_one, hdj, List.map_append, List.map_append]
      rfl
    have new : ObjOk X.prog X.w (upd H1 kS (.lst (((ds.take (j + 1)).map key).map V.str))) (s''.heap.update kS (Obj.mapSeq (·.push ku))) kS (.lst (((ds.take (j + 1)).map key).map V.str)) := by
      refine ⟨?_, kits ++ [ku], c2, ?_, ?_⟩
      · rw [List.length_map, List.length_map, List.length_take]; omega
      · rw [ek2]
        exact rks.append (.cons rk .nil)
      · rw [hc2]; simp
    have J2 : Inv X pins σ (upd H1 kS (.lst (((ds.take (j + 1)).map key).map V.str))) { s'' with heap := s''.heap.update kS (Obj.mapSeq (·.push ku)), toks := s''.toks } :=
      J1.write (x := kS) (e := kS) (by rw [hk1]; trivial) (.inl rfl) (fun b o hb e => (Heap.get?_update_ne _ _ _ _ hb).trans e) ⟨_, hc2⟩ new
    exact wpAny_pure ⟨rfl, F1, _, J2, (x.trans x1).write_new nk hk1 trivial, upd_same, by rw [upd_ne hak]; exact ha1, fk1, fa1⟩
  case done =>
    rintro s' ⟨F, H, J, x, hk, ha, fk, fa⟩
    simp only [Nat.zero_add] at hk
    rw [show ds.take its.length = ds from List.take_of_length_le (by omega)] at hk
    obtain ⟨hz1, kits, n, rks, ok⟩ := J.hok kS _ hk
    have oa := exact_get J.hok ha
    have hkl : kits.toArray.size = its.length := by
      rw [List.size_toArray, ← rks.length, List.length_map, List.length_map]; omega
    try dsimp only
    refine wpAny_bind (listItems_at ok rfl ?_)
    have hk' : EachIs (fun v k => ∃ as, Reads s'.heap v k as) kits.toArray.toList ((ds.map key).map PyData.str) := vals_each rks
    have hid : ∀ b o, b ≠ kS → s'.heap.get? b = some o → (hideAll s'.heap [kS]).get? b = some o := fun b o hb e => hideAll_get _ e (by simpa using hb)
    refine keyH_end (κ := dataKind s'.heap ((ds.map key).map PyData.str)) (h₁ := hideAll s'.heap [kS]) (b := false) (vs := its) (fun b o _ e => of_hideAll _ e) (hideAll_none _ List.mem_cons_self) ok oa hak.symm
      (SortsAt.data hk' strs_alike strs_sortable fun d hd => by
        obtain ⟨k, _, rfl⟩ := List.mem_map.mp hd
        show X.A.units + 1 + 1 + 0 < cLine
        omega) hkl hz' fun h3 tk3 c kp n3 => ⟨rfl, ?_⟩
    have ko : KeyedOut false ((xs.zip ds).map fun p => PyData.str (key p.2)) its (sortVals (dataKind s'.heap ((ds.map key).map PyData.str)) false kits.toArray.toList its) := by
      have e : ((xs.zip ds).map fun p => PyData.str (key p.2)) = (ds.map key).map PyData.str := by
        have : (xs.zip ds).map Prod.snd = ds := List.map_snd_zip (by omega)
        conv => rhs; rw [← this]
        rw [List.map_map, List.map_map]
        rfl
      rw [e]
      exact ⟨s'.heap, kits.toArray.toList, strs_alike, rfl, hk'⟩
    have R := keyedOut_each (R := fun u (p : V × T) => RelV p.1 u) (fun p => PyData.str (key p.2)) ko (each_zip rv hdl)
    generalize eo : sortVals (dataKind s'.heap ((ds.map key).map PyData.str)) false kits.toArray.toList its = out at n3 R
    generalize ez : (xs.zip ds).mergeSort (dataLe false fun p => PyData.str (key p.2)) = zs at R
    have rz := each_vals R
    have pz : zs.Perm (xs.zip ds) := by rw [← ez]; exact List.mergeSort_perm _ _
    have ezs : zs.map Prod.snd = sortT key ds := by
      rw [← ez]
      unfold sortT
      exact (List.map_mergeSort (r := dataLe false fun p : V × T => PyData.str (key p.2)) (s := dataLe false fun d => PyData.str (key d)) (fun _ _ _ _ => rfl)).trans (by rw [List.map_snd_zip (by omega)])
    have new : ObjOk X.prog X.w (fun b => if b = kS then none else upd H a (.lst (zs.map Prod.fst)) b) h3 a (.lst (zs.map Prod.fst)) := by
      refine ⟨?_, out, c, rz, n3⟩
      rw [List.length_map, pz.length_eq, List.length_zip]
      omega
    have J3 := inv_sorted (t' := tk3) (h' := h3) J ha hk hnew hpin hcell hL (fun b o h1 h2 e => kp b o h1 (hid b o h2 e)) new
    have xf : Ext C F0 H0 F (fun b => if b = kS then none else upd H a (.lst (zs.map Prod.fst)) b) := by
      have at_ : ∀ b, b ≠ a → b ≠ kS → (if b = kS then none else upd H a (.lst (zs.map Prod.fst)) b) = H b := fun b h1 h2 => by rw [if_neg h2, upd_ne h1]
      have nak : ∀ b u, H0 b = some u → b ≠ a ∧ b ≠ kS := fun b u e => ⟨ne_of_none e na, ne_of_none e nk⟩
      refine ⟨fun b o e nt => by rw [at_ b (nak b o e).1 (nak b o e).2]; exact x.same b o e nt, x.fz, fun b z => (x.new b z).imp id fun ⟨e1, o, e2⟩ => ⟨e1, o, by rw [at_ b (fun y => fa (y ▸ z)) (fun y => fk (y ▸ z))]; exact e2⟩,
        fun b o e => by rw [at_ b (nak b o e).1 (nak b o e).2]; exact x.trk b o e, fun p hp t => ?_⟩
      obtain ⟨ps, t1, t2, t3⟩ := x.tab p hp t
      refine ⟨ps, (at_ p.1 (ne_of t1 ha fun z => nomatch z) (ne_of t1 hk fun z => nomatch z)).trans t1, t2, fun pos cv hcv => ?_⟩
      obtain ⟨c0, c1, c2⟩ := t3 pos cv hcv
      refine ⟨c0, c1, (at_ c0 (fun z => ?_) (ne_of c2 hk fun z => nomatch z)).trans c2⟩
      obtain ⟨⟨oc, vs, t, g1, g2, g3⟩, _, _⟩ := J.hok c0 _ c2
      rw [z, oa] at g1
      cases g1
      cases g2
    refine ⟨.ref a, _, J3, rfl, fin a (zs.map Prod.fst) F _ xf (by rw [if_neg hak, upd_same]) na fa (fun b z => ?_) ?_⟩
    · rcases x.new b z with y | ⟨_, o, y⟩
      · obtain ⟨o, e⟩ := dm b y
        exact xf.trk b o e
      · exact ⟨o, (if_neg (fun q => fk (by rw [← q]; exact z))).trans ((upd_ne (fun q => fa (by rw [← q]; exact z))).trans y)⟩
    · rw [← ezs]
      refine Ds.of_zip fun p hp => ?_
      exact (hd.split_zip p (pz.mem_iff.mp hp)).later hs xf.later
end
end L3

/-! L3jc: sorted(e, key=lambda y: body). -/
namespace L3
open PySem PySem.Spec PyProof.Rows L2

theorem clo_none {cells : List (Str × Addr)} : ∀ {names : List (Str × NameKind)}, (∀ y ∈ names, y.2 ≠ .free) → cloFrom cells names [] = []
  | [], _ => rfl
  | (n, k) :: r, h => by
    have hk : (k == NameKind.free) = false := by
      have := h (n, k) List.mem_cons_self
      cases k <;> first | rfl | exact absurd rfl this
    unfold cloFrom
    rw [hk]
    exact clo_none fun y hy => h y (List.mem_cons_of_mem _ hy)
abbrev lamO (q : Str) (params : Arguments) (body : Expr) (scope : Scope) (pm : Value) (c' : Addr) (ctv : Value) : Obj := PySem.W.kla_obj "<lambda>" q params body scope [] pm c' ctv
section
variable {X : Cx} {C : Ctx} {pins : List (Addr × Obj)} {σ : L2.St} {H : Hp} {s : Shared} {F : Addr → Prop}
/-- what stands behind a lambda's making -/
structure LamDone (X : Cx) (C : Ctx) (pins : List (Addr × Obj)) (σ : L2.St) (F : Addr → Prop) (H : Hp) (q : Str) (params : Arguments) (body : Expr) (scope : Scope) (f : Addr) (s' : Shared) : Prop where
  ex : ∃ (c' : Addr) (pm ctv : Value) (H1 : Hp), Inv X pins σ H1 s' ∧ Ext C F H F H1 ∧ s'.heap.get? f = some (lamO q params body scope pm c' ctv) ∧ H1 f = none ∧ f ∉ frs X.stack ∧ H1 c' = some (LamX.CodeO c' q)
theorem lam_ext {P c' : Addr} {q : Str} {ps ms : Array Value} (hP : H P = some (.tbl ps)) (nC : H c' = none) (hm : (P, q) ∈ C.tabs) (hu : ∀ p ∈ C.tabs, p.1 = P → p.2 = q) (ht : TriplesOk (ps ++ ms).toList)
    (hc : ∀ pos cv, codeAmong pos (ps ++ ms).toList = some cv → codeAmong pos ps.toList = some cv ∨ cv = .ref c') : Ext C F H F (upd (upd H P (.tbl (ps ++ ms))) c' (LamX.CodeO c' q)) := by
  have nP : ∀ b u, H b = some u → NT u → b ≠ P := fun b u e n z => by rw [z, hP] at e; cases e; exact n _ rfl
  have sm : ∀ b u, H b = some u → NT u → upd (upd H P (.tbl (ps ++ ms))) c' (LamX.CodeO c' q) b = some u := fun b u e n => by
    rw [upd_ne (ne_of_none e nC), upd_ne (nP b u e n)]; exact e
  have nPc : P ≠ c' := ne_of_none hP nC
  refine ⟨sm, fun _ z => z, fun _ z => .inl z, fun b u e => ?_, fun p hp t => ?_⟩
  · by_cases e1 : b = c'
    · exact ⟨_, by rw [e1, upd_same]⟩
    · by_cases e2 : b = P
      · exact ⟨_, by rw [upd_ne e1, e2, upd_same]⟩
      · exact ⟨u, by rw [upd_ne e1, upd_ne e2]; exact e⟩
  · obtain ⟨ps', t1, t2, t3⟩ := t
    have nt : ∀ c, NT (LamX.CodeO c p.2) := fun c ps z => LamX.codeO_ne ps z
    by_cases e : p.1 = P
    · have ep := hu p hp e
      rw [e, hP] at t1
      cases t1
      refine ⟨ps ++ ms, by rw [e, upd_ne nPc, upd_same], ht, fun pos cv h => ?_⟩
      rcases hc pos cv h with z | z
      · obtain ⟨c0, g1, g2⟩ := t3 pos cv z
        exact ⟨c0, g1, sm _ _ g2 (nt c0)⟩
      · exact ⟨c', z, by rw [upd_same, ep]⟩
    · refine ⟨ps', by rw [upd_ne (ne_of_none t1 nC), upd_ne e]; exact t1, t2, fun pos cv h => ?_⟩
      obtain ⟨c0, g1, g2⟩ := t3 pos cv h
      exact ⟨c0, g1, sm _ _ g2 (nt c0)⟩
theorem lam_made {c P : Addr} {params : Arguments} {body : Expr} {scope : Scope} {pos : Pos} {E : Value → Shared → Prop} {Q : Value → Shared → Prop} (I : Inv X pins σ H s) (B : LamX.TabB X.base X.mg c P) (hcode : X.env.code = .ref c)
    (hm : (P, X.env.qual ++ "<lambda>") ∈ C.tabs) (hu : ∀ p ∈ C.tabs, p.1 = P → p.2 = X.env.qual ++ "<lambda>") (tb : ∀ p ∈ C.tabs, LamX.TabS H p.1 p.2) (hdef : defaultsOf params X.env = ([], [])) (nf : ∀ y ∈ scope.names, y.2 ≠ .free)
    (h : ∀ f s', LamDone X C pins σ F H (X.env.qual ++ "<lambda>") params body scope f s' → Q (.ref f) s') : wpAny (model X.prog X.w) X.A (eval (.Lambda params body scope pos) X.env) Q E s := by
  obtain ⟨ps, hP, ht, ha⟩ := tb _ hm
  have oP : s.heap.get? P = some { cls := .none, data := .fields ps } := I.hok P _ hP
  have hcl : closureFor scope X.env = pure [] := (closure_ok fun y hy e => (nf y hy e).elim).trans (by rw [clo_none nf])
  have glob := I.mod.glob.keeps I.bk
  have code := B.code.keeps I.bk
  have nofr : ∀ f, s.heap.objs.size ≤ f → f ∉ frs X.stack := fun f hf z => (List.mem_cons.mp (I.stkSub _ z)).elim (fun e => Nat.lt_irrefl _ (Nat.lt_of_lt_of_le I.lt (e ▸ hf))) (I.nofs hf)
  refine PySem.W.kla_eval hdef ?_
  cases hc : codeAmong pos ps.toList with
  | some cv =>
    obtain ⟨c', e, hco⟩ := ha pos cv hc
    subst e
    refine PySem.W.kla_makeFunctionHit hcl I.ok.glob glob hcode code oP ht hc (B.bm.keeps I.bk) fun ctv g tk hx hsz => h _ _ ⟨c', _, ctv, H, I.kept fun b o e => Heap.get?_push_of_some _ (hx b o e), .refl, Heap.get?_push_size _ rfl, I.hok.fresh hsz, nofr _ hsz, hco⟩
  | none =>
    refine PySem.W.kla_makeFunction hcl I.ok.glob glob hcode code oP ht hc B.gP (B.bm.keeps I.bk) fun c' ctv g tk hx hge hlt ⟨c2, oc, vs, t, e2, hoc, hd, hv⟩ htb => ?_
    cases e2
    have hsz : s.heap.objs.size ≤ g.objs.size := Nat.le_trans hge (Nat.le_of_lt hlt)
    have nC : H c' = none := I.hok.fresh hge
    have eL : (ps ++ #[rawInt pos.line, rawInt pos.col, .ref c']).toList = ps.toList ++ [rawInt pos.line, rawInt pos.col, .ref c'] := by simp
    have I1 := LamX.inv_table (t' := tk) (more := #[rawInt pos.line, rawInt pos.col, .ref c']) (h' := g.push (lamO (X.env.qual ++ "<lambda>") params body scope ((X.mg "__name__").getD .none) c' ctv)) I hP
      (fun b o hb e => Heap.get?_push_of_some _ (hx b o hb e)) (Heap.get?_push_of_some _ htb) hge ⟨oc, vs, t, Heap.get?_push_of_some _ hoc, hd, hv⟩
    refine h _ _ ⟨c', _, ctv, _, I1, lam_ext hP nC hm hu (by rw [eL]; exact PySem.TriplesOk_snoc _ _ _ _ ht) (fun p' cv hcv => LamX.among_app _ ht (by rw [eL] at hcv; exact hcv)), Heap.get?_push_size _ rfl, ?_, nofr _ hsz, upd_same⟩
    rw [upd_ne (Nat.ne_of_gt hlt), upd_ne (Nat.ne_of_gt (Nat.lt_of_lt_of_le (Heap.lt_size oP) hsz))]
    exact I.hok.fresh hsz
end
section
variable {P : Program} {w : World} {K : PySem.W.Frag} {mg : Str → Option Value} {base : Heap}
/-- a lambda's run -/
theorem lam_code {A : Around} {outer : List Env} {s : Shared} {H : Hp} {f c' : Addr} {q : Str} {params : Arguments} {body : Expr} {scope : Scope} {pm ctv : Value} {N ps : List Str} {us : List Value} {vs : List V} {Q : VK} {E : XK} {k : Nat} {tb : TE}
    (S : FnScope N ps scope) (hr : Room (k + 1) A) (e0 : Env0 P w K mg base A outer s H) (hf : s.heap.get? f = some (lamO q params body scope pm c' ctv)) (hc : s.heap.CodeRec (.ref c') q) (hl : vs.length = ps.length) (r : Vals vs us)
    (hb : bindArgs (PySem.W.kla_fn "<lambda>" q params body scope [] pm (.ref c') ctv) ⟨us, []⟩ = pure (ps.zip us))
    (hbody : Room k (A.deeper (envOfC q scope s.heap.objs.size f (.ref c'))) → PE (cxOf (L2.CX P w) P w K mg base N q scope f (.ref c') A outer s H E) body tb) (hq : tb (start N vs) H Q) :
    codeAny (model P w) A (.call (.ref f) ⟨us, []⟩) (CR (L2.CX P w) outer P w H s Q E) s := by
  have lim : s.heap.NoLimit := e0.mod.nolimit.keeps fun b o e => (e0.bs b o e).1
  have hkind : ∀ y ∈ ps.zip us, scope.names.lookup y.1 = some .local ∨ (scope.names.lookup y.1 = some .cell ∧ ((cellsFrom (s.heap.objs.size + 1) scope.names []).lookup y.1).isSome = true) := fun y hy => (S.par y.1 (List.of_mem_zip hy).1).imp id fun z => ⟨z, PySem.W.cellsFrom_some _ _ _ (.inl z)⟩
  refine PySem.W.kla_callFunE hr.depth hf rfl S.co S.gen rfl hc ?_
  rw [hb]
  refine wpAny_pure (wpAny_newFunctionEnv_cells S.kind hkind fun env he s1 x => ?_)
  subst he
  refine ⟨lim.keeps x.toInCall.keep, PySem.W.kla_codeExpr ?_⟩
  have I : Inv (cxOf (L2.CX P w) P w K mg base N q scope f (.ref c') A outer s H E) [] (start N vs) H s1 := inv_start S hr.hd e0 hl r x
  exact wpAny_mono ((hbody (hr.deeper _)).run [] s1 (start N vs) H Q I hq) (fun v s' ⟨w', H', J, rv, z⟩ => ⟨w', H', J.os, J.bare, J.base, J.hok, rv, z⟩) fun e s' hs => hs
end
/-- the word of sorted(a, key=lambda y: ..) -/
def wSortK (wb : WE) (d : T) (Q : T → Prop) : Prop := ∃ ds key, d = .lst ds ∧ (∀ x ∈ ds, ∀ Q' : T → Prop, Q' (.str (key x)) → wb [.sh x] Q' NoEx) ∧ Q (.lst (sortT key ds))
section
variable {X : Cx} {C : Ctx} {W : WX} {wa wb : WE} {e body : Expr} {params : Arguments} {scope : Scope} {p pos lpos kpos : Pos} {y : Str} {c P : Addr} {k : Nat}
theorem sortk_c (hs : SrcStays C) (hK : X.K = C.K) (hmg : X.mg = C.mg) (hg : Gl X "sorted") (hm : X.mg "sorted" = none) (he : PE X e (cE C W wa)) (h1 : starEach [e] X.env = [(false, eval e X.env)])
    (B : LamX.TabB X.base X.mg c P) (hcode : X.env.code = .ref c) (hmT : (P, X.env.qual ++ "<lambda>") ∈ C.tabs) (hu : ∀ p ∈ C.tabs, p.1 = P → p.2 = X.env.qual ++ "<lambda>") (hr : Room (k + 3) X.A) (hgd : X.A.guards = some []) (S : FnScope [y] [y] scope)
    (hdef : defaultsOf params X.env = ([], [])) (hb : ∀ (q : Str) (pm cv ctv u : Value), bindArgs (PySem.W.kla_fn "<lambda>" q params body scope [] pm cv ctv) ⟨[u], []⟩ = pure [(y, u)])
    (hbody : ∀ (A : Around) (outer : List Env) (s : Shared) (H : Hp) (E : XK) (f c' : Addr), Room k (A.deeper (envOfC (X.env.qual ++ "<lambda>") scope s.heap.objs.size f (.ref c'))) → A.guards = some [] →
      PE (cxOf (L2.CX X.prog X.w) X.prog X.w X.K X.mg X.base [y] (X.env.qual ++ "<lambda>") scope f (.ref c') A outer s H E) body (cE C (fun cls d _ H => E cls d H) wb)) :
    PE X (.Call (.Name "sorted" p) [e] [⟨some "key", .Lambda params body scope lpos, kpos⟩] pos) (fun σ H Q => ∃ F ρ Qv Ev, RelS C F H ρ σ ∧ wa ρ (fun d => wSortK wb d Qv) Ev ∧
      (∀ p xs ds F' H', Ext C F H F' H' → H' p = some (.lst xs) → H p = none → ¬ F' p → (∀ b, F' b → ∃ o, H' b = some o) → Ds C H' F' xs ds → Qv (.lst ds) → Q (.ref p) H') ∧ ExOut C W F H σ Ev) := by
  refine ⟨fun pins s σ H Q I ⟨F, ρ, Qv, Ev, rel, q, kk, ex⟩ => ?_⟩
  refine wpAny_Call_Name_kw (ld_blt I hg hm (show bootBuiltins "sorted" = some (.builtin "sorted") by decide +kernel) ?_ (by decide) (by decide))
  refine PyProof.Rows.callWith_kw (thn ((pa_cons he pa_nil h1).run pos pins s σ H (fun vs H1 => ∃ v F1 d, vs = [v] ∧ Ext C F H F1 H1 ∧ D C H1 F1 v d ∧ wSortK wb d Qv) I ⟨F, ρ, _, Ev, rel, q, fun v d F1 H1 x1 hd q1 => ⟨v, F1, d, rfl, x1, hd, q1⟩, ex⟩) fun us s1 ⟨vs, H1, I1, r1, q1⟩ => ?_) ?_ ?_ rfl rfl
  · obtain ⟨v, F1, d, ev, x1, hd, ds, key, ed, hk, qf⟩ := q1
    subst ev ed
    obtain ⟨l, xs, rfl, hl, fl, hx⟩ := hd.isL
    obtain ⟨u, rfl, ru⟩ := vals1 r1
    obtain rfl : u = Value.ref l := ru
    have rel1 := rel.ext hs x1
    show wpAny _ _ (evalAll [(do let v ← eval (.Lambda params body scope lpos) X.env; standAt pos; pure v)]) _ _ s1
    refine wpAny_evalAll_cons (wpAny_bind (lam_made (F := F1) I1 B hcode hmT hu rel1.tabs hdef S.nofree fun f s2 ⟨c', pm, ctv, H2, I2, x2, of, nf, nfr, oc⟩ => ?_))
    refine wpAny_bind (wpAny_standAt (wpAny_pure ?_))
    refine wpAny_evalAll_nil ?_
    show wpAny _ _ (call (.builtin "sorted") [.ref l] [(Str.ofString "key", .ref f)]) _ _ s2
    have fL : f ≠ X.env.locals := fun z => by
      obtain ⟨m, ⟨o, es, ep, ho, hdd, _⟩, _⟩ := I2.loc
      rw [← z, of] at ho
      cases ho
      cases hdd
    have fO : f ∉ X.fs := fun z => nfr (by
      rcases I2.ok.stk with e | ⟨e, hf⟩
      · rw [e]; exact z
      · rw [e]; unfold frs; rw [List.filterMap_cons, hf]; exact List.mem_cons_of_mem _ z)
    have I3 : Inv X (pins ++ [(f, lamO (X.env.qual ++ "<lambda>") params body scope pm c' ctv)]) σ H2 s2 := I2.pins_of fun p hp => by
      rcases List.mem_append.mp hp with z | z
      · exact I2.pin p (List.mem_append_right _ z)
      · have e : p = (f, lamO (X.env.qual ++ "<lambda>") params body scope pm c' ctv) := by simpa using z
        subst e
        exact ⟨of, nf, fL, fO, fun _ z => nomatch z⟩
    have rel2 := rel1.ext hs x2
    refine wpAny_mono (sortK_run (F0 := F1) (ds := ds) (key := key) (Q := Q) hs hK I3 (.of (x2.same l _ hl fun _ z => nomatch z)) (hx.later hs x2.later) rel2.dom (by have := hr.un; omega) (fun H s' F v d u J x dv md rv => ?_) fun p ys F' H' x hp np nf' dm' hys => ?_) (fun u s' ⟨v, H', J, rv, z⟩ => ⟨v, H', J.unpinned, rv, z⟩) fun _ _ z => z
    · have oc' := x.same c' _ oc fun ps z => LamX.codeO_ne ps z
      obtain ⟨⟨oc2, vs2, t2, g1, g2, g3⟩, _, _⟩ := J.hok c' _ oc'
      have of' := (J.pin (f, lamO (X.env.qual ++ "<lambda>") params body scope pm c' ctv) (List.mem_append_right _ (List.mem_append_right _ List.mem_cons_self))).1
      have e0 := J.env0
      have dmF : ∀ b, F b → ∃ o, H b = some o := fun b z => (rel2.ext hs x).dom b z
      refine wpAny_call (codeAny_mono (lam_code (A := X.A.in1.in1) (outer := X.stack) (k := k) (E := fun _ _ _ => False) (Q := fun v' H' => ∃ F', Ext C F H F' H' ∧ v' = .str (key d)) (us := [u]) (vs := [v]) S hr.in1.in1 ⟨e0.frames, e0.mod, e0.bs, e0.bsz, e0.funs, e0.frf, e0.hok, e0.bare⟩ of' ⟨c', oc2, vs2, t2, rfl, g1, g2, g3⟩ rfl (.cons rv .nil) (hb _ _ _ _ u)
        (fun hr' => hbody _ _ s' H (fun _ _ _ => False) f c' hr' hgd) ?_) fun r s'' hq => ?_)
      · exact ⟨F, startT [y] [d], fun d' => d' = .str (key d), NoEx, relS_start (N := [y]) (.one_of dv) dmF (rel2.ext hs x).tabs, hk d md _ rfl, fun v' d' F' H' x' hd' e' => ⟨F', x', by subst e'; exact hd'.str_eq⟩, fun _ _ _ _ _ _ _ z => z⟩
      · cases r with
        | error e =>
          obtain ⟨_, _, _, _, _, _, _, _, _, _, _, _, z⟩ := (show L2.CX X.prog X.w X.stack H s' (fun _ _ _ => False) e s'' from hq)
          exact z.elim
        | ok fl =>
          cases fl with
          | ret u' =>
            obtain ⟨v', H', J', rv', F', x', ev'⟩ := J.after hq
            subst ev'
            exact ⟨F', H', J', x', rv'⟩
          | next => exact False.elim hq
          | brk => exact False.elim hq
          | cont => exact False.elim hq
    · exact kk p ys _ F' H' ((x1.trans x2).trans x) hp (none_bk x1 (none_bk x2 np)) nf' dm' hys qf
  · rw [h1]; rfl
  · rw [h1]; rfl
end
end L3

/-! L3jd: stars in displays, zip, max with a default, a list unpacked. -/
namespace L3
open PySem PySem.Spec PyProof.Rows L2
section
variable {X : Cx} {C : Ctx} {W : WX} {w wa wb : WE} {e e2 : Expr} {es : List Expr} {ws : WA} {p pos spos tpos : Pos} {k kk : Nat} {elts : List Expr}
/-- what a rule that lays a new list asks -/
abbrev cN (C : Ctx) (W : WX) (w : WE) : TE := fun σ H Q => ∃ (F : Addr → Prop) (ρ : Rho) (Qv : T → Prop) (Ev : Ex → Prop), RelS C F H ρ σ ∧ w ρ Qv Ev ∧
  (∀ p xs ds F' H', Ext C F H F' H' → H' p = some (.lst xs) → H p = none → ¬ F' p → (∀ b, F' b → ∃ o, H' b = some o) → Ds C H' F' xs ds → Qv (.lst ds) → Q (.ref p) H') ∧ ExOut C W F H σ Ev
theorem ve_new (hs : SrcStays C) (h : PE X e (cN C W w)) : PE X e (cE C W w) := h.imp fun σ H Q ⟨F, ρ, Qv, Ev, rel, q, k, ex⟩ => ⟨F, ρ, _, Ev, rel, q, fun p xs ds F' H' x hp np nf dm hd q2 => by
  have x2 : Ext C F H (fun b => F' b ∨ b = p) H' := ⟨x.same, fun b z => .inl (x.fz b z), fun b z => by
    rcases z with z | z
    · exact x.new b z
    · subst z; exact .inr ⟨np, _, hp⟩, x.trk, x.tab⟩
  exact k (.ref p) (.lst ds) (fun b => F' b ∨ b = p) H' x2 (.lst hp (.inr rfl) (hd.later hs ⟨fun _ _ _ _ z => z, fun _ _ _ _ z => z, fun _ z => .inl z⟩)) q2, ex⟩
theorem vf_new (hs : SrcStays C) (h : PE X e (cN C W w)) : PE X e (cF C W 1 w) := h.imp fun σ H Q ⟨F, ρ, Qv, Ev, rel, q, k, ex⟩ => ⟨F, ρ, _, Ev, rel, q, fun p xs ds F' H' x hp np nf dm hd q2 => by
  refine k p (.lst ds) F' H' x ⟨nf, .inl ⟨xs, ds, rfl, hp, hd⟩⟩ (by show [p].Nodup; simp) (fun b hb => ?_) q2
  have e : b = p := by
    have : b ∈ [p] := hb
    simpa using this
  subst e
  exact ⟨nf, np, _, hp, trivial⟩, ex⟩
theorem va_star (hs : SrcStays C) (hK : X.K = C.K) (he : PE X e (cE C W wa)) (hr : PA X es (cA C W ws)) (hst : starEach (.Starred e p :: es) X.env = (true, eval e X.env) :: starEach es X.env) :
    PA X (.Starred e p :: es) (cA C W fun ρ Q E => wa ρ (fun d => ∃ ys, seqT d = some ys ∧ ws ρ (fun ds => Q (ys ++ ds)) E) E) :=
  (StX.pa_star he hr hst).imp fun σ H Q ⟨F, ρ, Qv, Ev, rel, q, k, ex⟩ => ⟨F, ρ, _, Ev, rel, q, fun v d F1 H1 x1 hd ⟨ys, ey, q1⟩ => by
    have fin : ∀ {vs : List V}, Ds C H1 F1 vs ys → cA C W ws σ H1 fun us H2 => Q (vs ++ us) H2 := fun {vs} hv => ⟨F1, ρ, _, Ev, rel.ext hs x1, q1, fun us ds F2 H2 x2 hds q2 => k _ _ F2 H2 (x1.trans x2) ((hv.later hs x2.later).append hds) q2, ex.ext x1⟩
    unfold seqT at ey
    split at ey
    · cases ey
      obtain ⟨a, xs, rfl, ha, fa, hx⟩ := hd.isL
      exact ⟨a, xs, rfl, .inr (.of ha), fin hx⟩
    · cases ey
      obtain ⟨a, xs, rfl, ha, hx⟩ := hd.isT
      exact ⟨a, xs, rfl, .inl (by rw [hK]; exact ha), fin hx⟩
    · (cases ey), ex⟩
end
/-! ### zip -/
def zipT (xs ys : List T) : List T := (xs.zip ys).map fun p => T.tup [p.1, p.2]
section
variable {C : Ctx} {F : Addr → Prop} {H : Hp}
theorem zipT_at {xs ys : List T} {i : Nat} {d : T} (h : (zipT xs ys)[i]? = some d) : ∃ x y, xs[i]? = some x ∧ ys[i]? = some y ∧ d = .tup [x, y] := by
  unfold zipT at h
  rw [List.getElem?_map] at h
  obtain ⟨p, hp, e⟩ := Option.map_eq_some_iff.mp h
  obtain ⟨h1, h2⟩ := List.getElem?_zip_eq_some.mp hp
  exact ⟨_, _, h1, h2, e.symm⟩
theorem zipT_len {xs ys : List T} : (zipT xs ys).length = min xs.length ys.length := by simp [zipT]
theorem walkT_zipL {a b : Addr} {xs ys : List V} {ds es : List T} (hs : SrcStays C) (ha : H a = some (.lst xs)) (fa : F a) (hb : H b = some (.lst ys)) (fb : F b) (hd : Ds C H F xs ds) (he : Ds C H F ys es) : WalkT C (Itz C.K a b) F H (zipT ds es) := by
  have at1 : ∀ {F2 : Addr → Prop} {H2 : Hp}, Later F H F2 H2 → SqL C.K H2 a xs := fun l => .of (l.ls a _ fa trivial ha)
  have at2 : ∀ {F2 : Addr → Prop} {H2 : Hp}, Later F H F2 H2 → SqL C.K H2 b ys := fun l => .of (l.ls b _ fb trivial hb)
  have l1 := hd.length
  have l2 := he.length
  refine ⟨fun i F2 H2 hi l => ?_, fun F2 H2 l => ⟨xs, ys, at1 l, at2 l, ?_⟩, fun i F2 H2 x H3 d hi l y => ?_⟩
  · rw [zipT_len] at hi
    have i1 : i < xs.length := by omega
    have i2 : i < ys.length := by omega
    exact ⟨xs, ys, xs[i], ys[i], at1 l, at2 l, by simp [i1], by simp [i2]⟩
  · rw [zipT_len]; omega
  · obtain ⟨q, x1, y1, rfl, hq, rfl, f1, f2⟩ := y
    obtain ⟨d1, d2, h1, h2, rfl⟩ := zipT_at hi
    obtain ⟨v, hv, dv⟩ := hd.get h1
    obtain ⟨u, hu, du⟩ := he.get h2
    have := (f1 xs (at1 l)).symm.trans hv
    cases this
    have := (f2 ys (at2 l)).symm.trans hu
    cases this
    exact ⟨F2, .new_tup hq, .tup (.of upd_same) (.cons (dv.later hs (l.trans (later_tup hq))) (.cons (du.later hs (l.trans (later_tup hq))) .nil))⟩
theorem walkT_zipT {a b : Addr} {xs ys : List V} {ds es : List T} (hs : SrcStays C) (ha : SqT C.K H a xs) (hb : SqT C.K H b ys) (hd : Ds C H F xs ds) (he : Ds C H F ys es) : WalkT C (RZ.ItzT C.K a b) F H (zipT ds es) := by
  have at1 : ∀ {F2 : Addr → Prop} {H2 : Hp}, Later F H F2 H2 → SqT C.K H2 a xs := fun l => SqT.laterK ha l
  have at2 : ∀ {F2 : Addr → Prop} {H2 : Hp}, Later F H F2 H2 → SqT C.K H2 b ys := fun l => SqT.laterK hb l
  have l1 := hd.length
  have l2 := he.length
  refine ⟨fun i F2 H2 hi l => ?_, fun F2 H2 l => ⟨xs, ys, at1 l, at2 l, ?_⟩, fun i F2 H2 x H3 d hi l y => ?_⟩
  · rw [zipT_len] at hi
    have i1 : i < xs.length := by omega
    have i2 : i < ys.length := by omega
    exact ⟨xs, ys, xs[i], ys[i], at1 l, at2 l, by simp [i1], by simp [i2]⟩
  · rw [zipT_len]; omega
  · obtain ⟨q, x1, y1, rfl, hq, rfl, f1, f2⟩ := y
    obtain ⟨d1, d2, h1, h2, rfl⟩ := zipT_at hi
    obtain ⟨v, hv, dv⟩ := hd.get h1
    obtain ⟨u, hu, du⟩ := he.get h2
    have := (f1 xs (at1 l)).symm.trans hv
    cases this
    have := (f2 ys (at2 l)).symm.trans hu
    cases this
    exact ⟨F2, .new_tup hq, .tup (.of upd_same) (.cons (dv.later hs (l.trans (later_tup hq))) (.cons (du.later hs (l.trans (later_tup hq))) .nil))⟩
end
/-- zip of two lists, or of two tuples -/
def wZip (d d' : T) (Q : List T → Prop) : Prop :=
  match d, d' with
  | .lst xs, .lst ys => Q (zipT xs ys)
  | .tup xs, .tup ys => Q (zipT xs ys)
  | _, _ => False
section
variable {X : Cx} {C : Ctx} {W : WX} {w wa wb : WE} {e e2 : Expr} {es : List Expr} {p pos tpos : Pos} {k kk : Nat} {elts : List Expr}
theorem vi_zip (hs : SrcStays C) (hK : X.K = C.K) (hg : Gl X "zip") (hm : X.mg "zip" = none) (ha : PE X e (cE C W wa)) (hb : PE X e2 (cE C W wb))
    (h1 : starEach [e, e2] X.env = (false, eval e X.env) :: starEach [e2] X.env) (h2 : starEach [e2] X.env = (false, eval e2 X.env) :: starEach [] X.env) :
    PI X (.Tuple elts kk tpos) (.Call (.Name "zip" p) [e, e2] [] pos) (cI C W fun ρ Q E => wa ρ (fun d => wb ρ (fun d' => wZip d d' Q) E) E) :=
  (RZ.pi_zipA hg hm (va_cons hs ha (va_cons hs hb va_nil h2) h1) h1 (by rw [h2]; rfl)).imp fun σ H R ⟨F, ρ, Qv, Ev, rel, q, k, ex⟩ => ⟨F, ρ, fun ds => ∃ d d', ds = [d, d'] ∧ wZip d d' Qv, Ev, rel, by
    show wa ρ (fun d => wb ρ (fun d' => ∃ x y, [d, d'] = [x, y] ∧ wZip x y Qv) Ev) Ev
    have e1 : (fun d => wb ρ (fun d' => ∃ x y, [d, d'] = [x, y] ∧ wZip x y Qv) Ev) = fun d => wb ρ (fun d' => wZip d d' Qv) Ev := by
      funext d
      refine congrArg (fun z => wb ρ z Ev) (funext fun d' => ?_)
      exact propext ⟨fun ⟨x, y, z, q⟩ => by cases z; exact q, fun q => ⟨d, d', rfl, q⟩⟩
    rw [e1]
    exact q, fun vs ds F2 H2 x hds ⟨d, d', ed, q2⟩ => by
    subst ed
    obtain ⟨v, v', rfl, hd, hd'⟩ := hds.two
    rw [hK]
    unfold wZip at q2
    split at q2
    · obtain ⟨a, xs, rfl, ha, fa, hx⟩ := hd.isL
      obtain ⟨b, ys, rfl, hb, fb, hy⟩ := hd'.isL
      exact ⟨a, b, xs, ys, rfl, .inl ⟨.of ha, .of hb, k _ _ F2 H2 x (walkT_zipL hs ha fa hb fb hx hy) q2⟩⟩
    · obtain ⟨a, xs, rfl, ha, hx⟩ := hd.isT
      obtain ⟨b, ys, rfl, hb, hy⟩ := hd'.isT
      exact ⟨a, b, xs, ys, rfl, .inr ⟨ha, hb, k _ _ F2 H2 x (walkT_zipT hs ha hb hx hy) q2⟩⟩
    · (exact q2.elim), ex⟩
/-! ### max(list, default=d) -/
def wMaxD (d d' : T) (Q : T → Prop) : Prop := ∃ ns i, d = .lst (ns.map T.int) ∧ d' = .int i ∧ ∀ m : Int, (ns = [] → m = i) → (ns ≠ [] → m ∈ ns ∧ ∀ y ∈ ns, y ≤ m) → Q (.int m)
theorem foldl_max {x : Int} {xs : List Int} : PySem.W.maxOf x xs ∈ x :: xs ∧ ∀ y ∈ x :: xs, y ≤ PySem.W.maxOf x xs := by
  unfold PySem.W.maxOf
  induction xs generalizing x with
  | nil => exact ⟨List.mem_cons_self, fun y hy => by simp at hy; simp [hy]⟩
  | cons z zs ih =>
    rw [List.foldl_cons]
    have lt_ : ∀ a b : Int, PySem.W.DatumOrd.lt a b = decide (a < b) := fun _ _ => rfl
    by_cases h : x < z
    · rw [if_pos (by rw [lt_]; exact decide_eq_true h)]
      obtain ⟨h1, h2⟩ := ih (x := z)
      refine ⟨List.mem_cons_of_mem _ h1, fun y hy => ?_⟩
      rcases List.mem_cons.mp hy with rfl | hy
      · exact Int.le_trans (Int.le_of_lt h) (h2 z List.mem_cons_self)
      · exact h2 y hy
    · rw [if_neg (by rw [lt_]; simp [h])]
      obtain ⟨h1, h2⟩ := ih (x := x)
      refine ⟨?_, fun y hy => ?_⟩
      · rcases List.mem_cons.mp h1 with e | e
        · rw [e]; exact List.mem_cons_self
        · exact List.mem_cons_of_mem _ (List.mem_cons_of_mem _ e)
      · rcases List.mem_cons.mp hy with rfl | hy
        · exact h2 y List.mem_cons_self
        · rcases List.mem_cons.mp hy with rfl | hy
          · exact Int.le_trans (Int.not_lt.mp h) (h2 x List.mem_cons_self)
          · exact h2 y (List.mem_cons_of_mem _ hy)
theorem reads_ints {h : Heap} {us : List Value} {ns : List Int} (r : Vals (ns.map V.int) us) : ∃ as, ReadsAll h us (ns.map PyData.int) as := by
  induction ns generalizing us with
  | nil => cases r; exact ⟨_, .nil⟩
  | cons n ns ih =>
    cases r with
    | cons r t =>
      obtain ⟨tk, rfl⟩ := r
      obtain ⟨as, q⟩ := ih t
      exact ⟨_, .cons (.int n tk) q⟩
theorem ints_ds {H : Hp} {F : Addr → Prop} {ns : List Int} {vs : List V} (h : Ds C H F vs (ns.map T.int)) : vs = ns.map V.int := by
  induction ns generalizing vs with
  | nil => cases h; rfl
  | cons n ns ih =>
    cases h with
    | cons h1 h2 => rw [h1.int_eq, ih h2]; rfl
theorem ve_maxD (hs : SrcStays C) (hcal : X.calm = true) (hu : X.A.units + 2 < cLine) (hg : Gl X "max") (hm : X.mg "max" = none) (ha : PE X e (cE C W wa)) (hb : PE X e2 (cE C W wb)) (h1 : starEach [e] X.env = [(false, eval e X.env)]) {kpos : Pos} :
    PE X (.Call (.Name "max" p) [e] [⟨some "default", e2, kpos⟩] pos) (cE C W fun ρ Q E => wa ρ (fun d => wb ρ (fun d' => wMaxD d d' Q) E) E) := by
  refine (pe_callBK (id := "max") (ks := [Str.ofString "default"]) (r := fun vs zs H Q => ∃ (a : Addr) (ns : List Int) (i : Int), vs = [.ref a] ∧ zs = [.int i] ∧ SqL X.K H a (ns.map V.int) ∧ ∀ m : Int, (ns = [] → m = i) → (ns ≠ [] → m ∈ ns ∧ ∀ y ∈ ns, y ≤ m) → Q (.int m) H) ?_ hg hm (by decide +kernel) (va_cons hs ha va_nil h1) (pk_cons hb pk_nil) (by decide) (by decide) (by rw [h1]; rfl) (by rw [h1]; rfl) rfl rfl rfl).imp fun σ H Q ⟨F, ρ, Qv, Ev, rel, q, k, ex⟩ => ?_
  · intro pins s σ H vs zs us ws Q I r rz ⟨a, ns, i, ev, ez, hl, q⟩
    subst ev ez
    obtain ⟨its, rv, pl, hz⟩ := I.list hl
    obtain rfl := Vals.ref1 r
    obtain ⟨u, rfl, ru⟩ := vals1 rz
    obtain ⟨tk0, rfl⟩ := ru
    have H0 : PySem.W.HoldAll s.heap its.toArray.toList ns := by
      obtain ⟨as, z⟩ := reads_ints (h := s.heap) rv
      exact ⟨as, by rw [List.toList_toArray]; exact z⟩
    refine PySem.W.max_list_datum_default (xs := ns) (I.ok.hd hcal) pl.isList H0 (by show X.A.units + 1 + 0 < cLine; omega) (fun e h' tk kp => ⟨.int i, H, I.kept kp, ⟨_, rfl⟩, q i (fun _ => rfl) fun z => (z e).elim⟩) fun y ys j v h' tk e hv hh kp => ?_
    subst e
    obtain ⟨h2, h3⟩ := foldl_max (x := y) (xs := ys)
    obtain ⟨as, rd⟩ := hh
    refine ⟨.int (PySem.W.maxOf y ys), H, I.kept kp, ?_, q _ (fun z => nomatch z) fun _ => ⟨h2, h3⟩⟩
    have rd' : Reads h' v (.int (PySem.W.maxOf y ys)) as := rd
    cases rd' with
    | int n t => exact ⟨t, rfl⟩
  · refine ⟨F, ρ, fun ds => ∃ d, ds = [d] ∧ wb ρ (fun d' => wMaxD d d' Qv) Ev, Ev, rel, ?_, fun vs ds F1 H1 x1 hds ⟨d, ed, q1⟩ => ?_, ex⟩
    · show wa ρ (fun d => ∃ d0, [d] = [d0] ∧ wb ρ (fun d' => wMaxD d0 d' Qv) Ev) Ev
      have e1 : (fun d => ∃ d0, [d] = [d0] ∧ wb ρ (fun d' => wMaxD d0 d' Qv) Ev) = fun d => wb ρ (fun d' => wMaxD d d' Qv) Ev := by
        funext d
        exact propext ⟨fun ⟨d0, z, q⟩ => by cases z; exact q, fun q => ⟨d, rfl, q⟩⟩
      rw [e1]
      exact q
    · subst ed
      obtain ⟨v, rfl, hd⟩ := hds.one
      refine ⟨F1, ρ, _, Ev, rel.ext hs x1, q1, fun v2 d2 F2 H2 x2 hd2 ⟨ns, i, e1, e2, q2⟩ => ?_, ex.ext x1⟩
      subst e1 e2
      obtain ⟨a, xs, rfl, hl, fl, hx⟩ := (hd.later hs x2.later).isL
      refine ⟨a, ns, i, rfl, by rw [hd2.int_eq], .of (by rw [← ints_ds hx]; exact hl), fun m m1 m2 => k _ _ F2 H2 (x1.trans x2) (.int m) (q2 m m1 m2)⟩
/-- a, b, .. = a list -/
theorem vg_lst {es : List Expr} {k n : Nat} {gs : List T → Rho → (Rho → Prop) → Prop} (hK : X.K = C.K) (hc : X.calm = true) {is : List Nat} (h : PGs X es (cGs C is gs)) (hn : (assignEach es X.env).length = n) (hst : (assignEach es X.env).findIdx? (·.1) = none) :
    PG X (.Tuple es k pos) (cG C is fun d ρ R => ∃ ds, d = .lst ds ∧ ds.length = n ∧ gs ds ρ R) :=
  (pg_lst hc h hn hst).imp fun v σ H Q ⟨P, F0, H0, F, ρ, d, R, s, hd, ⟨ds, e, hl, q⟩, kk⟩ => by
    subst e
    obtain ⟨a, xs, rfl, ha, fa, hx⟩ := hd.isL
    exact ⟨a, xs, rfl, .of ha, by rw [hx.length]; exact hl, P, F0, H0, F, ρ, ds, R, s, hx, q, kk⟩
end
end L3

/-! L3k: a small syntax, its words, and when it is the text. -/
namespace L3
open PySem PySem.Spec PyProof.Rows L2

inductive Bo where
  | add | sub | mul | fdv | mod | pow
  deriving DecidableEq
inductive Co where
  | lt | le | gt | ge | eq | ne | in_ | notin | is_ | isnot
  deriving DecidableEq
inductive Ty where
  | str | int | bool | list | tuple | dict
  deriving DecidableEq
def Bo.op : Bo → Operator
  | .add => .Add | .sub => .Sub | .mul => .Mult | .fdv => .FloorDiv | .mod => .Mod | .pow => .Pow
def Bo.w : Bo → T → T → (T → Prop) → Prop
  | .add => wAdd | .sub => wSub | .mul => wMul | .fdv => wFdv | .mod => wMod | .pow => wPow
def Co.op : Co → CmpOp
  | .lt => .Lt | .le => .LtE | .gt => .Gt | .ge => .GtE | .eq => .Eq | .ne => .NotEq | .in_ => .In | .notin => .NotIn | .is_ => .Is | .isnot => .IsNot
def isNonT : T → Bool
  | .non => true
  | _ => false
def wIs (neg : Bool) (d d' : T) (Q : T → Prop) : Prop :=
  match d' with
  | .non => Q (.bl (isNonT d != neg))
  | _ => False
def wLt (f : Int → Int → Bool) (g : List Nat → List Nat → Bool) (d d' : T) (Q : T → Prop) : Prop :=
  match d, d' with
  | .int i, .int j => Q (.bl (f i j))
  | .str x, .str y => Q (.bl (g x.cps.toList y.cps.toList))
  | _, _ => False
def Co.w : Co → T → T → (T → Prop) → Prop
  | .lt => wLt (fun i j => decide (i < j)) (fun x y => decide (x < y))
  | .le => wCmp fun i j => decide (i ≤ j)
  | .gt => wCmp fun i j => decide (j < i)
  | .ge => wCmp fun i j => decide (j ≤ i)
  | .eq => wEq false | .ne => wEq true | .in_ => wIn false | .notin => wIn true | .is_ => wIs false | .isnot => wIs true
theorem bo_ok {X : Cx} {C : Ctx} (hs : SrcStays C) (hK : X.K = C.K) (o : Bo) : ∃ r, OpR X (binaryOp o.op) r ∧ OpD C r o.w := by
  cases o with
  | add => exact ⟨_, or_add, by rw [hK]; exact od_add hs⟩
  | sub => exact ⟨_, op_sub, od_sub⟩
  | mul => exact ⟨_, or_mul, od_mul hs⟩
  | fdv => exact ⟨_, op_fdivW, od_fdv⟩
  | mod => exact ⟨_, op_mod, od_mod⟩
  | pow => exact ⟨_, op_pow, od_pow⟩
theorem D.isNon {C : Ctx} {F : Addr → Prop} {H : Hp} {v : V} {d : T} (h : D C H F v d) : decide (v = .non) = isNonT d := by
  cases h <;> simp [isNonT]
theorem co_ok {X : Cx} {C : Ctx} (hs : SrcStays C) (hK : X.K = C.K) (hu : X.A.units + 65 < cLine) (o : Co) : ∃ r, OpR X (compareOp o.op) r ∧ OpD C r o.w := by
  have hu' : X.A.units + 64 < cLine := by omega
  cases o with
  | lt =>
    refine ⟨_, op_lt.or op_lt_str, fun F H x y d d' Qv Q hd hd' hw k => ?_⟩
    have hw : wLt (fun i j => decide (i < j)) (fun x y => decide (x < y)) d d' Qv := hw
    unfold wLt at hw
    split at hw
    · rw [hd.int_eq, hd'.int_eq]
      exact .inl ⟨_, _, rfl, rfl, k _ _ F H .refl (.bl _) hw⟩
    · rw [hd.str_eq, hd'.str_eq]
      exact .inr ⟨_, _, rfl, rfl, k _ _ F H .refl (.bl _) hw⟩
    · exact hw.elim
  | le => exact ⟨_, op_le, od_cmp⟩
  | gt => exact ⟨_, op_gt, od_cmp⟩
  | ge => exact ⟨_, op_ge, od_cmp⟩
  | eq => exact ⟨_, (op_eqD hu').or op_eq, by rw [hK]; exact od_eq⟩
  | ne => exact ⟨_, (op_neD hu').or op_ne, by rw [hK]; exact od_ne⟩
  | in_ => exact ⟨_, (op_inD hu).or (op_inT hu), by rw [hK]; exact od_in⟩
  | notin => exact ⟨_, (op_notInD hu).or (op_notInT hu), by rw [hK]; exact od_notIn⟩
  | is_ =>
    refine ⟨_, op_isN, fun F H x y d d' Qv Q hd hd' hw k => ?_⟩
    have hw : wIs false d d' Qv := hw
    unfold wIs at hw
    split at hw
    · exact ⟨hd'.non_eq, k _ _ F H .refl (.bl _) (by rw [hd.isNon]; simpa using hw)⟩
    · exact hw.elim
  | isnot =>
    refine ⟨_, op_notN, fun F H x y d d' Qv Q hd hd' hw k => ?_⟩
    have hw : wIs true d d' Qv := hw
    unfold wIs at hw
    split at hw
    · exact ⟨hd'.non_eq, k _ _ F H .refl (.bl _) (by rw [hd.isNon]; simpa using hw)⟩
    · exact hw.elim
def wGcd : T → T → (T → Prop) → Prop
  | .int a, .int b, Q => Q (.int ((Nat.gcd a.natAbs b.natAbs : Nat) : Int))
  | _, _, _ => False
theorem ve_gcd {X : Cx} {C : Ctx} {W : WX} {p pos : Pos} {e e' : Expr} {wa wb : WE} (hs : SrcStays C) (hg : Gl X "gcd") (hm : X.mg "gcd" = some (.builtin "math.gcd")) (ha : PE X e (cE C W wa)) (hb : PE X e' (cE C W wb))
    (h1 : starEach [e, e'] X.env = (false, eval e X.env) :: starEach [e'] X.env) (h2 : starEach [e'] X.env = (false, eval e' X.env) :: starEach [] X.env) :
    PE X (.Call (.Name "gcd" p) [e, e'] [] pos) (cE C W fun ρ Q E => wa ρ (fun d => wb ρ (fun d' => wGcd d d' Q) E) E) :=
  (pe_callBfun cr_gcd hg hm (va_cons hs ha (va_cons hs hb va_nil h2) h1) (by decide +kernel) h1 (by rw [h2]; rfl)).imp fun σ H Q ⟨F, ρ, Qv, Ev, rel, q, k, ex⟩ => ⟨F, ρ, fun ds => ∃ d d', ds = [d, d'] ∧ wGcd d d' Qv, Ev, rel, by
    show wa ρ (fun d => wb ρ (fun d' => ∃ x y, [d, d'] = [x, y] ∧ wGcd x y Qv) Ev) Ev
    have e1 : (fun d => wb ρ (fun d' => ∃ x y, [d, d'] = [x, y] ∧ wGcd x y Qv) Ev) = fun d => wb ρ (fun d' => wGcd d d' Qv) Ev := by
      funext d
      refine congrArg (fun z => wb ρ z Ev) (funext fun d' => ?_)
      exact propext ⟨fun ⟨x, y, z, q⟩ => by cases z; exact q, fun q => ⟨d, d', rfl, q⟩⟩
    rw [e1]
    exact q, fun vs ds F2 H2 x hds ⟨d, d', ed, q2⟩ => by
    subst ed
    obtain ⟨v, v', rfl, hd, hd'⟩ := hds.two
    unfold wGcd at q2
    split at q2
    · rw [hd.int_eq, hd'.int_eq]
      exact ⟨_, _, rfl, k _ _ F2 H2 x (.int _) q2⟩
    · exact q2.elim, ex⟩
end L3

/-! L3kb: join, index. -/
namespace L3
open PySem PySem.Spec PyProof.Rows L2
/-- a list of texts -/
def strsT : List T → Option (List Str)
  | [] => some []
  | .str b :: xs => (strsT xs).map (b :: ·)
  | _ :: _ => none
theorem Ds.strs {C : Ctx} {H : Hp} {F : Addr → Prop} : ∀ {ds : List T} {vs : List V} {bs : List Str}, Ds C H F vs ds → strsT ds = some bs → vs = bs.map V.str
  | [], vs, bs, h, e => by cases h; cases e; rfl
  | d :: ds, vs, bs, h, e => by
    cases h with
    | cons h1 h2 =>
      cases d <;> first
        | (simp [strsT] at e; done)
        | (unfold strsT at e
           cases q : strsT ds with
           | none => rw [q] at e; cases e
           | some zs =>
             rw [q] at e
             cases e
             rw [h1.str_eq, Ds.strs h2 q]
             rfl)
def wJoin (s : Str) (d : T) (Q : T → Prop) : Prop := ∃ xs ys, seqT d = some xs ∧ strsT xs = some ys ∧ (ys.map (·.length)).sum + ys.length * s.length ≤ 16777216 ∧ Q (.str (Txt.join s ys))
section
variable {X : Cx} {C : Ctx} {W : WX} {e : Expr} {we : WE} {apos pos p : Pos} {k : Nat}
theorem ve_join {s : Str} (hK : X.K = C.K) (he : PE X e (cE C W we)) (hs : starEach [e] X.env = [(false, eval e X.env)]) (hline : (apos.endLine == pos.line) = true) :
    PE X (.Call (.Attribute (.Constant (.str s) k p) "join" apos) [e] [] pos) (cE C W fun ρ Q E => we ρ (fun d => wJoin s d Q) E) :=
  (pe_join pe_str he hs rfl hline).imp fun σ H Q ⟨F, ρ, Qv, Ev, rel, q, kk, ex⟩ => ⟨⟨s, rfl⟩, F, ρ, _, Ev, rel, q, fun v d F1 H1 x1 hd ⟨xs, ys, e1, e2, b, q1⟩ => by
    unfold seqT at e1
    split at e1
    · cases e1
      obtain ⟨a, vs, rfl, ha, fa, hx⟩ := hd.isL
      have := hx.strs e2
      subst this
      exact ⟨s, a, ys, rfl, rfl, .inl (.of ha), b, kk _ _ F1 H1 x1 (.str _) q1⟩
    · cases e1
      obtain ⟨a, vs, rfl, ha, hx⟩ := hd.isT
      have := hx.strs e2
      subst this
      exact ⟨s, a, ys, rfl, rfl, .inr (by rw [hK]; exact ha), b, kk _ _ F1 H1 x1 (.str _) q1⟩
    · exact (nomatch e1), ex⟩
/-- the first place of what equals d' -/
def wIndex (d d' : T) (Q : T → Prop) : Prop := ∃ xs, d = .lst xs ∧ okB d = true ∧ okB d' = true ∧ ∃ j z, xs[j]? = some z ∧ eqT z d' = true ∧ (∀ m z', m < j → xs[m]? = some z' → eqT z' d' = false) ∧ Q (.int (j : Nat))
theorem ve_index {o : Expr} {wo : WE} (hs : SrcStays C) (hK : X.K = C.K) (hu : X.A.units + 65 < cLine) (ho : PE X o (cE C W wo)) (he : PE X e (cE C W we)) (h1 : starEach [e] X.env = [(false, eval e X.env)]) (hbase : attributeBase o "index" X.env (eval o X.env) = eval o X.env) (hline : (apos.endLine == pos.line) = true)
    (hfew : ((backTo pos (starEach [e] X.env)).all (fun x => !x.1) && (backToKw pos (keywordEach [] X.env)).all (fun x => x.1.isSome) && decide ([e].length + ([] : List Keyword).length + (if ([] : List Keyword).isEmpty then 0 else 1) < 30)) = true) :
    PE X (.Call (.Attribute o "index" apos) [e] [] pos) (cE C W fun ρ Q E => wo ρ (fun d => (∃ xs, d = .lst xs) ∧ we ρ (fun d' => wIndex d d' Q) E) E) :=
  (pe_bm PySem.F.plainAttrs_list PySem.F.slot_list_index PySem.F.type_list_index (mt_indexD hu) ho (pa_cons he pa_nil h1) hbase hfew hline h1 rfl).imp fun σ H Q ⟨F, ρ, Qv, Ev, rel, q, kk, ex⟩ =>
    ⟨F, ρ, fun d => (∃ xs, d = .lst xs) ∧ we ρ (fun d' => wIndex d d' Qv) Ev, Ev, rel, q, fun v d F1 H1 x1 hd ⟨⟨xs, e1⟩, q1⟩ => by
      subst e1
      obtain ⟨a, vs, rfl, ha, fa, hx⟩ := hd.isL
      refine ⟨.inl ⟨rfl, vs, .of ha⟩, F1, ρ, fun d' => wIndex (.lst xs) d' Qv, Ev, rel.ext hs x1, q1, fun v2 d2 F2 H2 x2 hd2 ⟨ys, e2, o1, o2, j, z, hz, hj, hm, q2⟩ => ?_, ex.ext x1⟩
      cases e2
      have hl := hd.later hs x2.later
      have p1 := hl.dp o1
      rw [toPy, toPys_map] at p1
      have sh := okD_shaped o1 (by decide)
      rw [toPy, toPys_map] at sh
      rw [hK]
      refine ⟨a, v2, toPy d2, xs.map toPy, j, toPy z, rfl, rfl, p1, hd2.dp o2, sh, okD_shaped o2 (by decide), by rw [List.getElem?_map, hz]; rfl, hj, fun m z' hmj hz' => ?_, kk _ _ F2 H2 (x1.trans x2) (.int _) q2⟩
      rw [List.getElem?_map] at hz'
      obtain ⟨z0, h0, rfl⟩ := Option.map_eq_some_iff.mp hz'
      exact hm m z0 hmj h0, ex⟩
end
end L3

/-! L3kc: own lists, read at a place while they may still be appended to. -/
namespace L3
open PySem PySem.Spec PyProof.Rows L2
section
variable {C : Ctx} {W : WX} {X : Cx} {F F1 : Addr → Prop} {H H1 : Hp} {ρ : Rho} {σ : L2.St}
def ownL (ρ : Rho) (i : Nat) (k : List T → Prop) : Prop :=
  match ρ[i]? with
  | some (.own 1 (.lst ds)) => k ds
  | _ => False
theorem ownL_of {i : Nat} {k : List T → Prop} (h : ownL ρ i k) : ∃ ds, ρ[i]? = some (.own 1 (.lst ds)) ∧ k ds := by
  unfold ownL at h
  split at h
  · exact ⟨_, by assumption, h⟩
  · exact h.elim
/-- an own list of the frame, as it lies -/
theorem RelS.ownl (r : RelS C F H ρ σ) {i : Nat} {ds : List T} (hi : ρ[i]? = some (.own 1 (.lst ds))) : ∃ a xs, σ[i]? = some (some (.ref a)) ∧ σ.getD i none = some (.ref a) ∧ H a = some (.lst xs) ∧ ¬ F a ∧ Ds C H F xs ds := by
  obtain ⟨a, ea, ho⟩ := r.slot i _ hi
  have hlt : i < σ.length := by rw [← r.len]; exact (List.getElem?_eq_some_iff.mp hi).1
  have e2 : σ[i]? = some (some (.ref a)) := by
    have ea' := ea
    rw [List.getD_eq_getElem?_getD, List.getElem?_eq_getElem hlt] at ea'
    rw [List.getElem?_eq_getElem hlt]
    exact congrArg some ea'
  rcases ho.2 with ⟨xs, ds', e1, h1, h2⟩ | ⟨_, _, e1, _⟩ | ⟨_, _, e1, _⟩
  · cases e1
    exact ⟨a, xs, e2, ea, h1, ho.1, h2⟩
  · cases e1
  · cases e1
/-- name[e] of an own list -/
theorem ve_ixo (hs : SrcStays C) (hK : X.K = C.K) {a b : Expr} {i : Nat} {wb : WE} {pos : Pos} (hv : PE X a (tVar i)) (hb : PE X b (cE C W wb)) (hx : PlainIx b) :
    PE X (.Subscript a b pos) (cE C W fun ρ Q Ev => ownL ρ i fun ds => wb ρ (fun d' => wIx (.lst ds) d' Q) Ev) :=
  (pe_ix ix_seq hv hb hx).imp fun σ H Q ⟨F, ρ, Qv, Ev, rel, q, k, ex⟩ => by
    obtain ⟨ds, hi, q⟩ := ownL_of q
    obtain ⟨a, xs, e1, e2, ha, nf, hx⟩ := rel.ownl hi
    refine ⟨.ref a, e1, F, ρ, _, Ev, rel, q, fun v2 d2 F2 H2 x2 hd2 q2 => ?_, ex⟩
    obtain ⟨a', xs', e1', e2', ha', nf', hx'⟩ := (rel.ext hs x2).ownl hi
    have : a' = a := by
      rw [e1] at e1'; cases e1'; rfl
    subst this
    cases d2 with
    | int j =>
      obtain ⟨e, he, q⟩ : ∃ x, L2.atI ds j = some x ∧ Qv x := q2
      obtain ⟨v, hv, dv⟩ := hx'.atI he
      rw [hd2.int_eq]
      exact .inl ⟨a', xs', _, v, rfl, rfl, by rw [hK]; exact .of ha', hv, k _ _ F2 H2 x2 dv q⟩
    | _ => exact (show False from q2).elim
end
end L3

/-! L3l: the syntax, its words, the check against the text. -/
namespace L3
open PySem PySem.Spec PyProof.Rows L2

abbrev Gt := Str → Option FnInfo

/-- a target: a name, or a tuple of names -/
inductive Tg where
  | name (i : Nat)
  | tup (is : List Nat)
  | lst (is : List Nat)
mutual
inductive E where
  | never
  | var (i : Nat)
  | int (n : Int)
  | bl (b : Bool)
  | non
  | str (x : Str)
  | bin (o : Bo) (a b : E)
  | neg (a : E)
  | not (a : E)
  | cmp (o : Co) (a b : E)
  | and (es : Es)
  | or (es : Es)
  | ite (c a b : E)
  | tup (es : Es)
  | lst (es : Es)
  | ix (a b : E)
  | ixo (i : Nat) (b : E)
  | sl (a : E) (lo hi : P)
  | rev (a : E)
  | bf (b : Bf) (es : Es)
  | gcd (a b : E)
  | join (s : Str) (a : E)
  | index (a b : E)
  | cmp2 (o o' : Co) (a b c : E)
  | isi (a : E) (t : Ty)
  | call (f : Str) (es : Es)
  | callS (f : Str) (a : E)
  | tupS (xs : Xs)
  | maxD (a b : E)
  | sortk (a : E) (y : Str) (b : E)
  | lc (elt : E) (t : Tg) (it : I) (ifs : Es) (own : List (Str × Nat))
inductive Es where
  | nil
  | cons (e : E) (es : Es)
/-- parts of a display, some with a star -/
inductive Xs where
  | nil
  | one (e : E) (xs : Xs)
  | star (e : E) (xs : Xs)
/-- a part of a slice -/
inductive P where
  | no
  | at (e : E)
/-- what is walked -/
inductive I where
  | seq (e : E)
  | rng1 (e : E)
  | rng2 (a b : E)
  | enum (e : E)
  | zip (a b : E)
end
def isTupX : Expr → Bool
  | .Tuple _ _ _ => true
  | _ => false
def I.needT : I → Bool
  | .enum _ => true
  | .zip _ _ => true
  | _ => false
def mk (v : WE) : WE × WT := (v, bOf v)
def rd (ρ : Rho) (i : Nat) (Q : T → Prop) : Prop :=
  match ρ[i]? with
  | some (.sh d) => Q d
  | _ => False
def wTup : List Nat → List T → Rho → (Rho → Prop) → Prop
  | [], ds, ρ, R => ds = [] ∧ R ρ
  | i :: is, ds, ρ, R => ∃ d r, ds = d :: r ∧ wTup is r (ρ.set i (.sh d)) R
def Tg.w : Tg → WG
  | .name i => fun d ρ R => R (ρ.set i (.sh d))
  | .tup is => fun d ρ R => ∃ ds, d = .tup ds ∧ ds.length = is.length ∧ wTup is ds ρ R
  | .lst is => fun d ρ R => ∃ ds, d = .lst ds ∧ ds.length = is.length ∧ wTup is ds ρ R
def Tg.slots : Tg → List Nat
  | .name i => [i]
  | .tup is => is
  | .lst is => is
def tyIs : Ty → T → Option Bool
  | t, .non => some false
  | .bool, .bl _ => some true
  | .int, .bl _ => some true
  | _, .bl _ => some false
  | .int, .int _ => some true
  | _, .int _ => some false
  | .str, .str _ => some true
  | _, .str _ => some false
  | .list, .lst _ => some true
  | _, .lst _ => some false
  | .tuple, .tup _ => some true
  | _, .tup _ => some false
  | .dict, .dct _ => some true
  | _, .dct _ => some false
  | _, _ => none
def wCall (G : Gt) (f : Str) : List T → (T → Prop) → (Ex → Prop) → Prop := fun ds Q Ev =>
  match G f with
  | some i => wArgs i ds Q Ev
  | none => False
mutual
/-- an expression's word; as a test -/
def w (G : Gt) : E → WE × WT
  | .never => (fun _ _ _ => False, fun _ _ _ => False)
  | .var i => mk fun ρ Q _ => rd ρ i Q
  | .int n => mk fun _ Q _ => Q (.int n)
  | .bl b => mk fun _ Q _ => Q (.bl b)
  | .non => mk fun _ Q _ => Q .non
  | .str x => mk fun _ Q _ => Q (.str x)
  | .bin o a b => mk fun ρ Q Ev => (w G a).1 ρ (fun d => (w G b).1 ρ (fun d' => o.w d d' Q) Ev) Ev
  | .neg a => mk fun ρ Q Ev => (w G a).1 ρ (fun d => wNeg d Q) Ev
  | .not a => (fun ρ Q Ev => (w G a).1 ρ (fun d => ∃ k, d = .bl k ∧ Q (.bl (!k))) Ev, fun ρ Q Ev => (w G a).2 ρ (fun k => Q (!k)) Ev)
  | .cmp o a b => mk fun ρ Q Ev => (w G a).1 ρ (fun d => (w G b).1 ρ (fun d' => o.w d d' Q) Ev) Ev
  | .and es => wAnd G es
  | .or es => wOr G es
  | .ite c a b => (fun ρ Q Ev => (w G c).2 ρ (fun k => if k = true then (w G a).1 ρ Q Ev else (w G b).1 ρ Q Ev) Ev, fun _ _ _ => False)
  | .tup es => mk fun ρ Q Ev => wEs G es ρ (fun ds => ds.length ≤ sizeLine ∧ Q (.tup ds)) Ev
  | .lst es => mk fun ρ Q Ev => wEs G es ρ (fun ds => ds.length ≤ sizeLine ∧ Q (.lst ds)) Ev
  | .ix a b => mk fun ρ Q Ev => (w G a).1 ρ (fun d => (w G b).1 ρ (fun d' => wIx d d' Q) Ev) Ev
  | .ixo i b => mk fun ρ Q Ev => ownL ρ i fun ds => (w G b).1 ρ (fun d' => wIx (.lst ds) d' Q) Ev
  | .sl a lo hi => mk fun ρ Q Ev => (w G a).1 ρ (fun d => wP G lo ρ (fun l => wP G hi ρ (fun u => wSl d l u Q) Ev) Ev) Ev
  | .rev a => mk fun ρ Q Ev => (w G a).1 ρ (fun d => wRev d Q) Ev
  | .bf b es => mk fun ρ Q Ev => wEs G es ρ (fun ds => b.w ds Q) Ev
  | .gcd a b => mk fun ρ Q Ev => (w G a).1 ρ (fun d => (w G b).1 ρ (fun d' => wGcd d d' Q) Ev) Ev
  | .join s a => mk fun ρ Q Ev => (w G a).1 ρ (fun d => wJoin s d Q) Ev
  | .index a b => mk fun ρ Q Ev => (w G a).1 ρ (fun d => (∃ xs, d = .lst xs) ∧ (w G b).1 ρ (fun d' => wIndex d d' Q) Ev) Ev
  | .cmp2 o o' a b c => mk fun ρ Q Ev => (w G a).1 ρ (fun d => (w G b).1 ρ (fun d' => o.w d d' fun x => ∃ k, x = .bl k ∧ if k = true then (w G c).1 ρ (fun d2 => o'.w d' d2 Q) Ev else Q (.bl false)) Ev) Ev
  | .isi a t => mk fun ρ Q Ev => (w G a).1 ρ (fun d => ∃ b, tyIs t d = some b ∧ Q (.bl b)) Ev
  | .call f es => mk fun ρ Q Ev => wEs G es ρ (fun ds => wCall G f ds Q Ev) Ev
  | .callS f a => mk fun ρ Q Ev => (w G a).1 ρ (fun d => ∃ ds, (d = .lst ds ∨ d = .tup ds) ∧ wCall G f ds Q Ev) Ev
  | .tupS xs => mk fun ρ Q Ev => wXs G xs ρ (fun ds => ds.length ≤ sizeLine ∧ Q (.tup ds)) Ev
  | .maxD a b => mk fun ρ Q Ev => (w G a).1 ρ (fun d => (w G b).1 ρ (fun d' => wMaxD d d' Q) Ev) Ev
  | .sortk a _ b => mk fun ρ Q Ev => (w G a).1 ρ (fun d => wSortK (w G b).1 d Q) Ev
  | .lc elt t it ifs own => mk (wLcE (wI G it) t.w (wIfs G ifs) (w G elt).1 (own.map (·.2)))
def wEs (G : Gt) : Es → WA
  | .nil => fun _ Q _ => Q []
  | .cons e es => fun ρ Q Ev => (w G e).1 ρ (fun d => wEs G es ρ (fun ds => Q (d :: ds)) Ev) Ev
def wXs (G : Gt) : Xs → WA
  | .nil => fun _ Q _ => Q []
  | .one e xs => fun ρ Q Ev => (w G e).1 ρ (fun d => wXs G xs ρ (fun ds => Q (d :: ds)) Ev) Ev
  | .star e xs => fun ρ Q Ev => (w G e).1 ρ (fun d => ∃ ys, seqT d = some ys ∧ wXs G xs ρ (fun ds => Q (ys ++ ds)) Ev) Ev
def wAnd (G : Gt) : Es → WE × WT
  | .nil => (fun _ _ _ => False, fun _ _ _ => False)
  | .cons e es => (fun ρ Q Ev => match es with
      | .nil => (w G e).1 ρ Q Ev
      | .cons _ _ => (w G e).1 ρ (fun d => ∃ k, d = .bl k ∧ if k = true then (wAnd G es).1 ρ Q Ev else Q (.bl false)) Ev,
    fun ρ Q Ev => match es with
      | .nil => (w G e).2 ρ Q Ev
      | .cons _ _ => (w G e).2 ρ (fun k => if k = true then (wAnd G es).2 ρ Q Ev else Q false) Ev)
def wOr (G : Gt) : Es → WE × WT
  | .nil => (fun _ _ _ => False, fun _ _ _ => False)
  | .cons e es => (fun ρ Q Ev => match es with
      | .nil => (w G e).1 ρ Q Ev
      | .cons _ _ => (w G e).1 ρ (fun d => ∃ k, d = .bl k ∧ if k = true then Q (.bl true) else (wOr G es).1 ρ Q Ev) Ev,
    fun ρ Q Ev => match es with
      | .nil => (w G e).2 ρ Q Ev
      | .cons _ _ => (w G e).2 ρ (fun k => if k = true then Q true else (wOr G es).2 ρ Q Ev) Ev)
/-- a clause's tests: none or one -/
def wIfs (G : Gt) : Es → WT
  | .nil => fun _ Q _ => Q true
  | .cons e es => (w G e).2
def wP (G : Gt) : P → WO
  | .no => fun _ Q _ => Q none
  | .at e => fun ρ Q Ev => (w G e).1 ρ (fun d => ∃ i, d = .int i ∧ Q (some i)) Ev
def wI (G : Gt) : I → WI
  | .seq e => fun ρ Q Ev => (w G e).1 ρ (fun d => ∃ xs, seqT d = some xs ∧ Q xs) Ev
  | .rng1 e => fun ρ Q Ev => (w G e).1 ρ (fun d => ∃ j : Int, d = .int j ∧ -(2 ^ 62) ≤ j ∧ j < 2 ^ 62 ∧ Q (rangeT 0 j.toNat)) Ev
  | .rng2 a b => fun ρ Q Ev => (w G a).1 ρ (fun d => (w G b).1 ρ (fun d' => ∃ i j : Int, d = .int i ∧ d' = .int j ∧ (-(2 ^ 62) ≤ i ∧ i < 2 ^ 62 ∧ -(2 ^ 62) ≤ j ∧ j < 2 ^ 62) ∧ Q (rangeT i (j - i).toNat)) Ev) Ev
  | .enum e => fun ρ Q Ev => (w G e).1 ρ (fun d => ∃ xs, seqT d = some xs ∧ Q (enumT xs)) Ev
  | .zip a b => fun ρ Q Ev => (w G a).1 ρ (fun d => (w G b).1 ρ (fun d' => wZip d d' Q) Ev) Ev
end

/-! ### the check -/
structure Sc where
  N : List Str
  sc : Scope
  osc : Scope
  bn : List Str
  fns : List Str
  frs : List Str
  gcd : Bool := false
  lam : Bool := false
  lfns : List Str := []
def Sc.blk (c : Sc) (scope : Scope) : Sc := { c with sc := relS scope c.sc, osc := scope, lam := false }
/-- within a lambda -/
def Sc.lm (c : Sc) (y : Str) (scope : Scope) : Sc := { c with N := [y], sc := scope, osc := scope, lam := false, fns := c.lfns, frs := [], lfns := [] }
def chkArgs (y : Str) : Arguments → Bool
  | ⟨[], [⟨z, none, _⟩], none, [], [], none, []⟩ => decide (z = y)
  | _ => false
def chkScope (y : Str) (scope : Scope) : Bool := decide (scope.kind = .function) && !scope.isCoroutine && !scope.isGenerator && decide (scope.names.lookup y = some .local ∨ scope.names.lookup y = some .cell) && scope.names.all fun z => decide (z.2 ≠ .free)
def visB (c : Sc) (x : Str) : Bool := match c.sc.names.lookup x with
  | some .local => true
  | some .cell => true
  | some .free => true
  | _ => false
def locB (c : Scope) (x : Str) : Bool := match c.names.lookup x with
  | some .local => true
  | some .cell => true
  | _ => false
def globB (c : Sc) (x : Str) : Bool := match c.sc.names.lookup x with
  | some .globalImplicit => true
  | _ => false
/-- neither a star nor a slice -/
def plainX : Expr → Bool
  | .Starred _ _ => false
  | .Slice _ _ _ _ => false
  | _ => true
def chkName (c : Sc) (i : Nat) (x : Str) : Bool := decide (c.N[i]? = some x) && locB c.sc x && locB c.osc x
def chkNames (c : Sc) : List Nat → List Expr → Bool
  | [], xs => match xs with
    | [] => true
    | _ => false
  | i :: is, xs => match xs with
    | .Name y _ :: es => chkName c i y && chkNames c is es
    | _ => false
def Tg.chk (c : Sc) (t : Tg) (x : Expr) : Bool := match t, x with
  | .name i, .Name y _ => chkName c i y
  | .tup is, .Tuple es _ _ => chkNames c is es
  | .lst is, .Tuple es _ _ => chkNames c is es
  | _, _ => false
def Ty.name : Ty → Str
  | .str => "str" | .int => "int" | .bool => "bool" | .list => "list" | .tuple => "tuple" | .dict => "dict"
def noSet : Expr → Bool
  | .Set _ _ _ => false
  | _ => true
def isConst : Expr → Option Const
  | .Constant k _ _ => some k
  | _ => none
def chkC (k : Const) (x : Expr) : Bool := match x with
  | .Constant k' _ _ => decide (k' = k)
  | _ => false
mutual
def chk (c : Sc) : E → Expr → Bool
  | .never, x => plainX x
  | .var i, x => match x with
    | .Name y _ => decide (c.N[i]? = some y) && visB c y && !(y == ("__debug__" : Str)) && !(y == ("__classdict__" : Str))
    | _ => false
  | .int n, x => match x with
    | .Constant (.int m) _ _ => decide (m = n)
    | _ => false
  | .bl b, x => match x with
    | .Constant (.bool m) _ _ => decide (m = b)
    | _ => false
  | .non, x => match x with
    | .Constant .none _ _ => true
    | _ => false
  | .str s, x => match x with
    | .Constant (.str m) _ _ => decide (m = s)
    | _ => false
  | .bin o a b, x => match x with
    | .BinOp x o' y _ => decide (o' = o.op) && chk c a x && chk c b y
    | _ => false
  | .neg a, x => match x with
    | .UnaryOp .USub y _ => chk c a y
    | _ => false
  | .not a, x => match x with
    | .UnaryOp .Not y _ => chk c a y
    | _ => false
  | .cmp o a b, x => match x with
    | .Compare x [o'] [y] _ => decide (o' = o.op) && chk c a x && chk c b y && noSet y
    | _ => false
  | .and es, x => match x with
    | .BoolOp .And vs _ => chkEs c es vs
    | _ => false
  | .or es, x => match x with
    | .BoolOp .Or vs _ => chkEs c es vs
    | _ => false
  | .ite t a b, x => match x with
    | .IfExp t' x y _ => chk c t t' && chk c a x && chk c b y
    | _ => false
  | .tup es, x => match x with
    | .Tuple xs _ _ => chkEs c es xs
    | _ => false
  | .lst es, x => match x with
    | .List xs _ => chkEs c es xs
    | _ => false
  | .ix a b, x => match x with
    | .Subscript x y _ => chk c a x && chk c b y && plainX y
    | _ => false
  | .ixo i b, x => match x with
    | .Subscript (.Name y _) z _ => (decide (c.N[i]? = some y) && visB c y && !(y == ("__debug__" : Str)) && !(y == ("__classdict__" : Str))) && chk c b z && plainX z
    | _ => false
  | .sl a lo hi, x => match x with
    | .Subscript x (.Slice l u none _) _ => chk c a x && chkP c lo l && chkP c hi u
    | _ => false
  | .rev a, x => match x with
    | .Subscript x (.Slice none none (some (.UnaryOp .USub (.Constant (.int 1) _ _) _)) _) _ => chk c a x
    | _ => false
  | .bf b es, x => match x with
    | .Call (.Name f _) xs [] _ => decide (f = b.name) && globB c f && decide (f ∈ c.bn) && chkEs c es xs && !xs.isEmpty
    | _ => false
  | .gcd a b, x => match x with
    | .Call (.Name f _) [x, y] [] _ => decide (f = "gcd") && globB c f && c.gcd && chk c a x && chk c b y
    | _ => false
  | .join s a, x => match x with
    | .Call (.Attribute (.Constant (.str m) _ _) at_ apos) [y] [] pos => decide (m = s) && decide (at_ = "join") && chk c a y && (apos.endLine == pos.line)
    | _ => false
  | .index a b, x => match x with
    | .Call (.Attribute (.Name n p) at_ apos) [y] [] pos => decide (at_ = "index") && chk c a (.Name n p) && chk c b y && (apos.endLine == pos.line)
    | _ => false
  | .cmp2 o o' a b d, x => match x with
    | .Compare x [p, p'] [y, z] _ => decide (p = o.op) && decide (p' = o'.op) && chk c a x && chk c b y && chk c d z && noSet y && noSet z
    | _ => false
  | .isi a t, x => match x with
    | .Call (.Name f _) [x, .Name ty _] [] _ => decide (f = "isinstance") && decide (ty = t.name) && globB c f && globB c ty && decide (f ∈ c.bn) && decide (ty ∈ c.bn) && chk c a x
    | _ => false
  | .call g es, x => match x with
    | .Call (.Name f _) xs [] _ => decide (f = g) && globB c f && decide (f ∈ c.fns) && chkEs c es xs && !xs.isEmpty
    | _ => false
  | .callS g a, x => match x with
    | .Call (.Name f _) [.Starred y _] [] _ => decide (f = g) && globB c f && decide (f ∈ c.fns) && chk c a y
    | _ => false
  | .tupS es, x => match x with
    | .Tuple xs _ _ => chkXs c es xs
    | _ => false
  | .maxD a b, x => match x with
    | .Call (.Name f _) [y] [⟨some kw, z, _⟩] _ => decide (f = "max") && decide (kw = "default") && globB c f && decide (f ∈ c.bn) && chk c a y && chk c b z
    | _ => false
  | .sortk a v b, x => match x with
    | .Call (.Name f _) [y] [⟨some kw, .Lambda params body scope _, _⟩] _ => decide (f = "sorted") && decide (kw = "key") && globB c f && decide (f ∈ c.bn) && c.lam && chk c a y && chkArgs v params && chkScope v scope && chk (c.lm v scope) b body
    | _ => false
  | .lc elt t it ifs own, x => match x with
    | .ListComp e [⟨tg, iter, fs, a⟩] scope _ => decide (a = 0) && chkI c it iter && (!it.needT || isTupX tg) && noSet iter && blkC c.N c.sc scope own && t.slots.all (fun i => decide (i ∈ own.map (·.2))) && t.chk (c.blk scope) tg && chkEs (c.blk scope) ifs fs && decide (fs.length ≤ 1) && chk (c.blk scope) elt e
    | _ => false
def chkEs (c : Sc) : Es → List Expr → Bool
  | .nil, xs => match xs with
    | [] => true
    | _ => false
  | .cons e es, xs => match xs with
    | x :: xs => chk c e x && chkEs c es xs
    | _ => false
def chkXs (c : Sc) : Xs → List Expr → Bool
  | .nil, xs => match xs with
    | [] => true
    | _ => false
  | .one e es, xs => match xs with
    | x :: xs => chk c e x && chkXs c es xs
    | _ => false
  | .star e es, xs => match xs with
    | .Starred x _ :: xs => chk c e x && chkXs c es xs
    | _ => false
def chkP (c : Sc) : P → Option Expr → Bool
  | .no, x => match x with
    | none => true
    | _ => false
  | .at e, x => match x with
    | some y => chk c e y
    | _ => false
def chkI (c : Sc) : I → Expr → Bool
  | .seq e, x => chk c e x
  | .rng1 e, x => match x with
    | .Call (.Name f _) [y] [] _ => decide (f = "range") && globB c f && decide (f ∈ c.bn) && chk c e y
    | _ => false
  | .rng2 a b, x => match x with
    | .Call (.Name f _) [y, z] [] _ => decide (f = "range") && globB c f && decide (f ∈ c.bn) && chk c a y && chk c b z
    | _ => false
  | .enum e, x => match x with
    | .Call (.Name f _) [y] [] _ => decide (f = "enumerate") && globB c f && decide (f ∈ c.bn) && chk c e y
    | _ => false
  | .zip a b, x => match x with
    | .Call (.Name f _) [y, z] [] _ => decide (f = "zip") && globB c f && decide (f ∈ c.bn) && chk c a y && chk c b z
    | _ => false
end
end L3

/-! L3m: the check is enough: expressions. -/
namespace L3
open PySem PySem.Spec PyProof.Rows L2

structure Good (C : Ctx) (G : Gt) (W : WX) (c : Sc) (X : Cx) : Prop where
  src : SrcStays C
  hN : X.N = c.N
  nd : c.N.Nodup
  hsc : X.env.scope = c.sc
  hK : X.K = C.K
  hm : X.mg = C.mg
  calm : X.calm = true
  units : X.A.units + 65 < cLine
  gd : X.A.guards = some []
  fn : ∀ x, locB c.osc x = true → locB c.sc x = true → X.fn x = true ∨ c.sc.names.lookup x = some .local
  bn : ∀ x ∈ c.bn, X.mg x = none
  fns : ∀ f ∈ c.fns, ∃ i a kk, G f = some i ∧ X.mg f = some (.ref a) ∧ PySem.W.keepIn X.K (.ref a) = true ∧ FnP X.prog X.w X.K X.mg X.base kk a (spI C i) ∧ Room kk X.A ∧ (f == ("__debug__" : Str)) = false
  lfns : c.lam = true → ∃ kl, Room (kl + 3) X.A ∧ ∀ f ∈ c.lfns, ∃ i a, G f = some i ∧ X.mg f = some (.ref a) ∧ PySem.W.keepIn X.K (.ref a) = true ∧ FnP X.prog X.w X.K X.mg X.base kl a (spI C i) ∧ (f == ("__debug__" : Str)) = false
  lm : c.lam = true → ∃ cc P, X.env.code = .ref cc ∧ LamX.TabB X.base X.mg cc P ∧ (P, X.env.qual ++ "<lambda>") ∈ C.tabs ∧ ∀ p ∈ C.tabs, p.1 = P → p.2 = X.env.qual ++ "<lambda>"
  frs : ∀ f ∈ c.frs, ∃ i, G f = some i ∧ i.fr = 1
  gcdm : c.gcd = true → X.mg "gcd" = some (.builtin "math.gcd")
  tk : Takes X W

theorem relS_local {scope sc : Scope} {x : Str} (h : scope.names.lookup x = some .local) : (relS scope sc).names.lookup x = some .local := by
  unfold relS
  show List.lookup x (scope.names.map _) = _
  generalize scope.names = l at h
  induction l with
  | nil => cases h
  | cons p l ih =>
    obtain ⟨n, k⟩ := p
    rw [List.lookup_cons] at h
    rw [List.map_cons]
    cases e : x == n with
    | true =>
      rw [e] at h
      have hk : k = .local := Option.some.inj h
      subst hk
      simp [List.lookup_cons, e]
    | false =>
      rw [e] at h
      have := ih h
      by_cases q : (k == NameKind.free && sc.kind == .function && sc.names.lookup n == some .cell) = true
      · dsimp only; rw [if_pos q, List.lookup_cons, e]; exact this
      · dsimp only; rw [if_neg q, List.lookup_cons, e]; exact this
section
variable {C : Ctx} {G : Gt} {W : WX} {c : Sc} {X : Cx}
theorem Good.blk (g : Good C G W c X) (s : Shared) (H : Hp) (scope : Scope) (C' : Addr) (cl : List (Str × Addr)) (fp : List Addr) : Good C G WF (c.blk scope) (X.blk s H scope (compEnvC scope cl C' X.env) fp) := by
  refine ⟨g.src, g.hN, g.nd, ?_, g.hK, g.hm, g.calm, g.units, g.gd, fun x h1 _ => ?_, g.bn, g.fns, (fun z => nomatch z), (fun z => nomatch z), g.frs, g.gcdm, takes0⟩
  · show relS scope X.env.scope = relS scope c.sc
    rw [g.hsc]
  · unfold locB at h1
    split at h1
    · rename_i h; exact .inr (relS_local h)
    · rename_i h
      refine .inl ?_
      show (scope.names.lookup x == some .cell) = true
      rw [show scope.names.lookup x = some .cell from h]
      rfl
    · cases h1
theorem Good.vis (g : Good C G W c X) {x : Str} (h : visB c x = true) : Vis X.env.scope x := by
  unfold visB at h
  unfold Vis
  rw [g.hsc]
  split at h
  · rename_i e; exact .inl e
  · rename_i e; exact .inr (.inl e)
  · rename_i e; exact .inr (.inr e)
  · cases h
theorem Good.loc (g : Good C G W c X) {x : Str} (h : locB c.sc x = true) : L2.Loc X.env.scope x := by
  unfold locB at h
  unfold L2.Loc
  rw [g.hsc]
  split at h
  · rename_i e; exact .inl e
  · rename_i e; exact .inr e
  · cases h
theorem Good.glob (g : Good C G W c X) {x : Str} (h : globB c x = true) : Gl X x := by
  unfold globB at h
  show X.env.scope.names.lookup x = some .globalImplicit
  rw [g.hsc]
  split at h
  · assumption
  · cases h
theorem Good.pg (g : Good C G W c X) {i : Nat} {x : Str} {pos : Pos} (h : chkName c i x = true) : PG X (.Name x pos) (gName i) := by
  unfold chkName at h
  simp only [Bool.and_eq_true, decide_eq_true_eq] at h
  obtain ⟨⟨h1, h2⟩, h3⟩ := h
  refine pg_name (by rw [g.hN]; exact g.nd) (by rw [g.hN]; exact h1) (g.loc h2) ?_
  rcases g.fn x h3 h2 with z | z
  · exact .inl z
  · exact .inr (by rw [g.hsc]; exact z)
theorem star_plain {e : Expr} {es : List Expr} {env : Env} (h : plainX e = true) : starEach (e :: es) env = (false, eval e env) :: starEach es env := by
  cases e <;> first | rfl | cases h
theorem plain_ix {b : Expr} (h : plainX b = true) : PlainIx b := by
  intro o i
  cases b <;> first | rfl | cases h
def noStars : List Expr → Bool
  | [] => true
  | e :: es => plainX e && noStars es
theorem any_noStars {pos : Pos} {env : Env} : ∀ {es : List Expr}, noStars es = true → (backTo pos (starEach es env)).any (·.1) = false
  | [], _ => rfl
  | e :: es, h => by
    unfold noStars at h
    rw [Bool.and_eq_true] at h
    rw [star_plain h.1]
    show (false || (backTo pos (starEach es env)).any (·.1)) = false
    rw [Bool.false_or]
    exact any_noStars h.2
theorem nomark_set {op : CmpOp} {b : Expr} (h : noSet b = true) : behindInMarks op b = false := by
  cases b <;> first | rfl | cases h
theorem folded_set {e : Expr} {env : Env} (h : noSet e = true) (x : Value) : foldedSetIterable e env x = Pure.pure x := by
  cases e <;> first | rfl | cases h
theorem chk_plain {e : E} {x : Expr} (h : chk c e x = true) : plainX x = true := by
  cases e <;> unfold chk at h <;> first
    | exact h
    | (split at h <;> first | rfl | cases h)
theorem chkEs_stars : ∀ {es : Es} {xs : List Expr}, chkEs c es xs = true → noStars xs = true
  | .nil, xs, h => by
    unfold chkEs at h
    split at h
    · rfl
    · cases h
  | .cons e es, xs, h => by
    unfold chkEs at h
    split at h
    · rw [Bool.and_eq_true] at h
      unfold noStars
      rw [Bool.and_eq_true]
      exact ⟨chk_plain h.1, chkEs_stars h.2⟩
    · cases h
theorem names_stars {is : List Nat} : ∀ {es : List Expr}, chkNames c is es = true → (∀ env, (assignEach es env).length = is.length ∧ (assignEach es env).findIdx? (·.1) = none) := by
  induction is with
  | nil =>
    intro es h env
    unfold chkNames at h
    split at h
    · exact ⟨rfl, rfl⟩
    · cases h
  | cons i is ih =>
    intro es h env
    unfold chkNames at h
    split at h
    · rw [Bool.and_eq_true] at h
      obtain ⟨h1, h2⟩ := ih h.2 env
      refine ⟨by show _ + 1 = _ + 1; rw [h1], ?_⟩
      show List.findIdx? _ ((false, _) :: _) = none
      rw [List.findIdx?_cons]
      simp [h2]
    · cases h
theorem Good.pgs (g : Good C G W c X) {sl : List Nat} : ∀ {is : List Nat} {es : List Expr}, chkNames c is es = true → (∀ i ∈ is, i ∈ sl) → PGs X es (cGs C sl (wTup is))
  | [], es, h, _ => by
    unfold chkNames at h
    split at h
    · exact vgs_nil
    · cases h
  | i :: is, es, h, hm => by
    unfold chkNames at h
    split at h
    · rw [Bool.and_eq_true] at h
      exact vgs_cons g.src (vg_name (g.pg h.1) (hm _ List.mem_cons_self)) (g.pgs h.2 fun j hj => hm j (List.mem_cons_of_mem _ hj)) rfl
    · cases h
theorem Good.tg (g : Good C G W c X) {t : Tg} {x : Expr} {sl : List Nat} (h : t.chk c x = true) (hm : ∀ i ∈ t.slots, i ∈ sl) : PG X x (cG C sl t.w) := by
  unfold Tg.chk at h
  split at h
  · exact vg_name (g.pg h) (hm _ List.mem_cons_self)
  · exact vg_tup g.hK g.calm (g.pgs h hm) (names_stars h _).1 (names_stars h _).2
  · exact vg_lst g.hK g.calm (g.pgs h hm) (names_stars h _).1 (names_stars h _).2
  · cases h
end
end L3

/-! L3n: the check is enough: expressions, by induction. -/
namespace L3
open PySem PySem.Spec PyProof.Rows L2

section
variable {C : Ctx} {G : Gt} {W : WX} {X : Cx} {e : Expr}
theorem both {w' : WE} (h : PE X e (cE C W w')) (he : ∀ whole, isTrue e X.env whole = (do let v ← whole; standAt e.pos; holding [v] (truthy v))) : PE X e (cE C W (mk w').1) ∧ PT X e (cT C W (mk w').2) := ⟨h, vt_val h he⟩
theorem PTs.imp' {X : Cx} {e : List Expr} {t t' : TT} (h : PTs X e t) (i : ∀ σ H Q, t' σ H Q → t σ H Q) : PTs X e t' := ⟨fun pins s σ H Q I q => h.run pins s σ H Q I (i σ H Q q)⟩
theorem vts_nil : PTs X [] (cT C W fun _ Q _ => Q true) := PTs.imp' pts_nil fun σ H Q ⟨F, ρ, Qv, Ev, rel, q, k, ex⟩ => k true F H .refl q
def Ty.tn : Ty → String
  | .str => "str" | .int => "int" | .bool => "bool" | .list => "list" | .tuple => "tuple" | .dict => "dict"
/-- isinstance -/
theorem isi_d {K : PySem.W.Frag} {F : Addr → Prop} {H : Hp} {C : Ctx} (hK : K = C.K) {t : Ty} {v : V} {d : T} {b : Bool} (hd : D C H F v d) (ht : tyIs t d = some b) :
    ∃ (tv : Value), TyX K H v tv ∧ PySem.W.kitOne K tv (.type t.tn) = some b := by
  subst hK
  cases hd with
  | non =>
    have e : b = false := by cases t <;> (cases ht; rfl)
    subst e
    exact ⟨_, .base .non, kit_ty (by cases t <;> decide +kernel)⟩
  | bl x => exact ⟨_, .base (.bl x), kit_ty (by cases t <;> (cases ht; decide +kernel))⟩
  | int x => exact ⟨_, .base (.int x), kit_ty (by cases t <;> (cases ht; decide +kernel))⟩
  | str x => exact ⟨_, .base (.str x), kit_ty (by cases t <;> (cases ht; decide +kernel))⟩
  | lst h1 _ _ => exact ⟨_, .base (.lst h1), kit_ty (by cases t <;> (cases ht; decide +kernel))⟩
  | tup h1 _ =>
    have k : PySem.W.kitOne C.K (.type "tuple") (.type t.tn) = some b := kit_ty (by cases t <;> (cases ht; decide +kernel))
    rcases h1 with (h1 | ⟨o, h1⟩) | ⟨o, its, n, h1, h2, _⟩
    · exact ⟨_, .base (.tup h1), k⟩
    · exact ⟨_, .fTuple h1, k⟩
    · exact ⟨_, .kTuple h1 h2, k⟩
  | dctK h1 _ _ => exact ⟨_, .base (.dK h1), kit_ty (by cases t <;> (cases ht; decide +kernel))⟩
  | dctT h1 _ _ => exact ⟨_, .base (.dT h1), kit_ty (by cases t <;> (cases ht; decide +kernel))⟩
  | fn h => cases t <;> cases ht
  | src h => cases t <;> cases ht
theorem boot_ty (t : Ty) : bootBuiltins t.name = some (.type t.tn) := by cases t <;> decide +kernel
theorem ve_isi {t : Ty} {a : Expr} {wa : WE} {p p2 pos : Pos} (hs : SrcStays C) (hK : X.K = C.K) (ha : PE X a (cE C W wa)) (hg : Gl X "isinstance") (hm : X.mg "isinstance" = none) (hg2 : Gl X t.name) (hm2 : X.mg t.name = none) (hp : plainX a = true) :
    PE X (.Call (.Name "isinstance" p) [a, .Name t.name p2] [] pos) (cE C W fun ρ Q E => wa ρ (fun d => ∃ b, tyIs t d = some b ∧ Q (.bl b)) E) := by
  have pt : PE X (.Name t.name p2) (tC (.ty t.tn)) := pe_bltn hg2 hm2 (boot_ty t) rfl (by cases t <;> decide +kernel) (by cases t <;> decide +kernel)
  refine (pe_callB call_isi hg hm (by decide +kernel) (pa_cons ha (pa_cons pt pa_nil rfl) (star_plain hp)) (by decide +kernel) (by decide +kernel) (star_plain hp) rfl).imp fun σ H Q ⟨F, ρ, Qv, Ev, rel, q, k, ex⟩ => ?_
  refine ⟨F, ρ, _, Ev, rel, q, fun v d F1 H1 x1 hd ⟨b, hb, q1⟩ => ?_, ex⟩
  obtain ⟨tv, h1, h2⟩ := isi_d hK hd hb
  exact ⟨v, _, tv, _, b, rfl, .ty _, h1, h2, k _ _ F1 H1 x1 (.bl b) q1⟩
end

theorem lastMarks_no {op op' : CmpOp} {b c : Expr} (h1 : noSet b = true) (h2 : noSet c = true) : lastMarks [op, op'] [b, c] = false := by
  cases b <;> cases c <;> first | rfl | exact Bool.noConfusion h2 | exact Bool.noConfusion h1
theorem needT_of {i : I} {tg : Expr} (h : (!i.needT || isTupX tg) = true) : i.needT = true → isTupX tg = true := fun z => by
  rw [z] at h
  exact h
theorem scope_of {y : Str} {scope : Scope} (h : chkScope y scope = true) : FnScope [y] [y] scope := by
  unfold chkScope at h
  simp only [Bool.and_eq_true, decide_eq_true_eq, Bool.not_eq_true', List.all_eq_true] at h
  obtain ⟨⟨⟨⟨h1, h2⟩, h3⟩, h4⟩, h5⟩ := h
  exact ⟨h1, h2, h3, by simp, rfl, fun x hx => by (have e : x = y := by simpa using hx); rw [e]; exact h4, h5⟩
theorem args_def {y : Str} {params : Arguments} {env : Env} (h : chkArgs y params = true) : defaultsOf params env = ([], []) := by
  unfold chkArgs at h
  split at h
  · rfl
  · cases h
theorem args_bind {y : Str} {params : Arguments} {body : Expr} {scope : Scope} (h : chkArgs y params = true) (q : Str) (pm cv ctv u : Value) : bindArgs (PySem.W.kla_fn "<lambda>" q params body scope [] pm cv ctv) ⟨[u], []⟩ = pure [(y, u)] := by
  unfold chkArgs at h
  split at h
  · have e := of_decide_eq_true h
    subst e
    first | rfl | (simp [bindArgs, seqItems?]; done) | (unfold bindArgs; simp [seqItems?]; rfl) | (unfold bindArgs; simp [seqItems?, notAStandIn])
  · cases h
mutual
theorem snd {C : Ctx} {G : Gt} : ∀ (e : E) {W : WX} {c : Sc} {X : Cx} (g : Good C G W c X) {x : Expr}, chk c e x = true → PE X x (cE C W (w G e).1) ∧ PT X x (cT C W (w G e).2)
  | .never, W, c, X, g, x, h => ⟨⟨fun pins s σ H Q I ⟨_, _, _, _, _, q, _⟩ => q.elim⟩, ⟨fun pins s σ H Q I ⟨_, _, _, _, _, q, _⟩ => q.elim⟩⟩
  | .var i, W, c, X, g, x, h => by
    unfold chk at h
    split at h
    · simp only [Bool.and_eq_true, decide_eq_true_eq, Bool.not_eq_true'] at h
      obtain ⟨⟨⟨h1, h2⟩, h3⟩, h4⟩ := h
      have h := (ve_var (C := C) (W := W) (pe_var (pos := by assumption) (by rw [g.hN]; exact h1) (g.vis h2) h3 h4)).imp (t' := cE C W fun ρ Q _ => rd ρ i Q) fun σ H Q ⟨F, ρ, Qv, Ev, rel, q, k, ex⟩ => ⟨F, ρ, Qv, Ev, rel, by
        have q : rd ρ i Qv := q
        unfold rd at q
        split at q
        · exact ⟨_, by assumption, q⟩
        · exact q.elim, k, ex⟩
      exact both h fun _ => rfl
    · cases h
  | .int n, W, c, X, g, x, h => by
    unfold chk at h
    split at h
    · have e := of_decide_eq_true h
      subst e
      exact both (ve_const pe_int fun H F => .int _) fun _ => rfl
    · cases h
  | .bl n, W, c, X, g, x, h => by
    unfold chk at h
    split at h
    · have e := of_decide_eq_true h
      subst e
      exact both (ve_const pe_bl fun H F => .bl _) fun _ => rfl
    · cases h
  | .non, W, c, X, g, x, h => by
    unfold chk at h
    split at h
    · exact both (ve_const pe_non fun H F => .non) fun _ => rfl
    · cases h
  | .str n, W, c, X, g, x, h => by
    unfold chk at h
    split at h
    · have e := of_decide_eq_true h
      subst e
      exact both (ve_const pe_str fun H F => .str _) fun _ => rfl
    · cases h
  | .bin o a b, W, c, X, g, x, h => by
    unfold chk at h
    split at h
    · simp only [Bool.and_eq_true, decide_eq_true_eq] at h
      obtain ⟨⟨rfl, h2⟩, h3⟩ := h
      obtain ⟨r, hr, ho⟩ := bo_ok (X := X) g.src g.hK o
      exact both (ve_bin g.src hr ho (snd a g h2).1 (snd b g h3).1) fun _ => rfl
    · cases h
  | .neg a, W, c, X, g, x, h => by
    unfold chk at h
    split at h
    · exact both (ve_un un_neg ud_neg (snd a g h).1) fun _ => rfl
    · cases h
  | .not a, W, c, X, g, x, h => by
    unfold chk at h
    split at h
    · exact ⟨ve_not (snd a g h).1, vt_not (snd a g h).2⟩
    · cases h
  | .cmp o a b, W, c, X, g, x, h => by
    unfold chk at h
    split at h
    · simp only [Bool.and_eq_true, decide_eq_true_eq] at h
      obtain ⟨⟨⟨rfl, h2⟩, h3⟩, h4⟩ := h
      obtain ⟨r, hr, ho⟩ := co_ok (X := X) g.src g.hK g.units o
      exact ⟨ve_cmp g.src hr ho (snd a g h2).1 (snd b g h3).1 (nomark_set h4), vt_cmp g.src hr ho (snd a g h2).1 (snd b g h3).1 (nomark_set h4)⟩
    · cases h
  | .and es, W, c, X, g, x, h => by
    unfold chk at h
    split at h
    · exact ⟨(sndAnd es g h).1, (sndAnd es g h).2.pt⟩
    · cases h
  | .or es, W, c, X, g, x, h => by
    unfold chk at h
    split at h
    · exact ⟨(sndOr es g h).1, (sndOr es g h).2.pt⟩
    · cases h
  | .ite t a b, W, c, X, g, x, h => by
    unfold chk at h
    split at h
    · simp only [Bool.and_eq_true] at h
      exact ⟨ve_ite g.src (snd t g h.1.1).2 (snd a g h.1.2).1 (snd b g h.2).1, ⟨fun pins s σ H Q I ⟨_, _, _, _, _, q, _⟩ => q.elim⟩⟩
    · cases h
  | .tup es, W, c, X, g, x, h => by
    unfold chk at h
    split at h
    · exact both (ve_tup g.src (sndEs es g h)) fun _ => rfl
    · cases h
  | .lst es, W, c, X, g, x, h => by
    unfold chk at h
    split at h
    · exact both (ve_lst g.src (sndEs es g h)) fun _ => rfl
    · cases h
  | .ix a b, W, c, X, g, x, h => by
    unfold chk at h
    split at h
    · simp only [Bool.and_eq_true] at h
      exact both (ve_ix g.src ix_seq (by rw [g.hK]; exact od_ix) (snd a g h.1.1).1 (snd b g h.1.2).1 (plain_ix h.2)) fun _ => rfl
    · cases h
  | .ixo i b, W, c, X, g, x, h => by
    unfold chk at h
    split at h
    · simp only [Bool.and_eq_true, decide_eq_true_eq, Bool.not_eq_true'] at h
      obtain ⟨⟨⟨⟨⟨h1, h2⟩, h3⟩, h4⟩, h5⟩, h6⟩ := h
      exact both (ve_ixo g.src g.hK (pe_var (by rw [g.hN]; exact h1) (g.vis h2) h3 h4) (snd b g h5).1 (plain_ix h6)) fun _ => rfl
    · cases h
  | .sl a lo hi, W, c, X, g, x, h => by
    unfold chk at h
    split at h
    · simp only [Bool.and_eq_true] at h
      exact both (ve_slice g.src g.hK (snd a g h.1.1).1 (sndP lo g h.1.2) (sndP hi g h.2)) fun _ => rfl
    · cases h
  | .rev a, W, c, X, g, x, h => by
    unfold chk at h
    split at h
    · exact both (ve_rev g.src (snd a g h).1) fun _ => rfl
    · cases h
  | .bf b es, W, c, X, g, x, h => by
    unfold chk at h
    split at h
    · rename_i f p xs pos
      simp only [Bool.and_eq_true, decide_eq_true_eq, Bool.not_eq_true'] at h
      obtain ⟨⟨⟨⟨rfl, h2⟩, h3⟩, h4⟩, h5⟩ := h
      cases xs with
      | nil => cases h5
      | cons y ys =>
        have st := chkEs_stars h4
        unfold noStars at st
        rw [Bool.and_eq_true] at st
        exact both (ve_bf g.src g.hK g.calm g.gd (by have := g.units; omega) b (g.glob h2) (g.bn _ h3) (sndEs es g h4) (star_plain st.1) (any_noStars st.2)) fun _ => rfl
    · cases h
  | .gcd a b, W, c, X, g, x, h => by
    unfold chk at h
    split at h
    · simp only [Bool.and_eq_true, decide_eq_true_eq] at h
      obtain ⟨⟨⟨⟨rfl, h2⟩, h3⟩, h4⟩, h5⟩ := h
      exact both (ve_gcd g.src (g.glob h2) (g.gcdm h3) (snd a g h4).1 (snd b g h5).1 (star_plain (chk_plain h4)) (star_plain (chk_plain h5))) fun _ => rfl
    · cases h
  | .join s a, W, c, X, g, x, h => by
    unfold chk at h
    split at h
    · simp only [Bool.and_eq_true, decide_eq_true_eq] at h
      obtain ⟨⟨⟨rfl, rfl⟩, h3⟩, h4⟩ := h
      exact both (ve_join g.hK (snd a g h3).1 (star_plain (chk_plain h3)) h4) fun _ => rfl
    · cases h
  | .index a b, W, c, X, g, x, h => by
    unfold chk at h
    split at h
    · simp only [Bool.and_eq_true, decide_eq_true_eq] at h
      obtain ⟨⟨⟨rfl, h2⟩, h3⟩, h4⟩ := h
      have st := star_plain (es := []) (env := X.env) (chk_plain h3)
      exact both (ve_index g.src g.hK g.units (snd a g h2).1 (snd b g h3).1 st rfl h4 (by rw [st]; rfl)) fun _ => rfl
    · cases h
  | .cmp2 o o' a b d, W, c, X, g, x, h => by
    unfold chk at h
    split at h
    · simp only [Bool.and_eq_true, decide_eq_true_eq] at h
      obtain ⟨⟨⟨⟨⟨⟨rfl, rfl⟩, h3⟩, h4⟩, h5⟩, h6⟩, h7⟩ := h
      obtain ⟨r, hr, ho⟩ := co_ok (X := X) g.src g.hK g.units o
      obtain ⟨r', hr', ho'⟩ := co_ok (X := X) g.src g.hK g.units o'
      exact ⟨ve_chain g.src hr ho hr' ho' (snd a g h3).1 (snd b g h4).1 (snd d g h5).1 (lastMarks_no h6 h7), vt_chain g.src hr ho hr' ho' (snd a g h3).1 (snd b g h4).1 (snd d g h5).1 (lastMarks_no h6 h7)⟩
    · cases h
  | .isi a t, W, c, X, g, x, h => by
    unfold chk at h
    split at h
    · simp only [Bool.and_eq_true, decide_eq_true_eq] at h
      obtain ⟨⟨⟨⟨⟨⟨rfl, rfl⟩, h2⟩, h3⟩, h4⟩, h5⟩, h6⟩ := h
      exact both (ve_isi g.src g.hK (snd a g h6).1 (g.glob h2) (g.bn _ h4) (g.glob h3) (g.bn _ h5) (chk_plain h6)) fun _ => rfl
    · cases h
  | .call f es, W, c, X, g, x, h => by
    unfold chk at h
    split at h
    · rename_i f' p xs pos
      simp only [Bool.and_eq_true, decide_eq_true_eq, Bool.not_eq_true'] at h
      obtain ⟨⟨⟨⟨rfl, h2⟩, h3⟩, h4⟩, h5⟩ := h
      cases xs with
      | nil => cases h5
      | cons y ys =>
        have st := chkEs_stars h4
        unfold noStars at st
        rw [Bool.and_eq_true] at st
        obtain ⟨i, a, kk, gi, hm, hk, Fn, hr, hd⟩ := g.fns _ h3
        have key : PE X (.Call (.Name f' p) (y :: ys) [] pos) (cE C W fun ρ Q E => wEs G es ρ (fun ds => wArgs i ds Q E) E) := by
          cases q : i.fr with
          | zero => exact ve_callI g.src Fn q hr g.gd (g.glob h2) hm hk g.tk (sndEs es g h4) hd (star_plain st.1) (any_noStars st.2)
          | succ m => exact ve_of_vf g.src (vf_callI g.src Fn q hr g.gd (g.glob h2) hm hk g.tk (sndEs es g h4) hd (star_plain st.1) (any_noStars st.2))
        refine both (key.imp fun σ H Q ⟨F, ρ, Qv, Ev, rel, q, k, ex⟩ => ⟨F, ρ, Qv, Ev, rel, ?_, k, ex⟩) fun _ => rfl
        have e : (fun ds => wCall G f' ds Qv Ev) = fun ds => wArgs i ds Qv Ev := by
          funext ds
          unfold wCall
          rw [gi]
        have q : wEs G es ρ (fun ds => wCall G f' ds Qv Ev) Ev := q
        rw [e] at q
        exact q
    · cases h
  | .callS f a, W, c, X, g, x, h => by
    unfold chk at h
    split at h
    · rename_i f' p y sp pos
      simp only [Bool.and_eq_true, decide_eq_true_eq] at h
      obtain ⟨⟨⟨rfl, h2⟩, h3⟩, h4⟩ := h
      obtain ⟨i, a', kk, gi, hm, hk, Fn, hr, hd⟩ := g.fns _ h3
      refine both ((ve_callIS g.src g.hK Fn hr g.gd (g.glob h2) hm hk g.tk (snd a g h4).1 hd).imp fun σ H Q ⟨F, ρ, Qv, Ev, rel, q, k, ex⟩ => ⟨F, ρ, Qv, Ev, rel, ?_, k, ex⟩) fun _ => rfl
      have q : (w G a).1 ρ (fun d => ∃ ds, (d = .lst ds ∨ d = .tup ds) ∧ wCall G f' ds Qv Ev) Ev := q
      unfold wCall at q
      rw [gi] at q
      exact q
    · cases h
  | .tupS es, W, c, X, g, x, h => by
    unfold chk at h
    split at h
    · exact both (ve_tup g.src (sndXs es g h)) fun _ => rfl
    · cases h
  | .maxD a b, W, c, X, g, x, h => by
    unfold chk at h
    split at h
    · simp only [Bool.and_eq_true, decide_eq_true_eq] at h
      obtain ⟨⟨⟨⟨⟨rfl, rfl⟩, h3⟩, h4⟩, h5⟩, h6⟩ := h
      exact both (ve_maxD g.src g.calm (by have := g.units; omega) (g.glob h3) (g.bn _ h4) (snd a g h5).1 (snd b g h6).1 (star_plain (chk_plain h5))) fun _ => rfl
    · cases h
  | .sortk a y b, W, c, X, g, x, h => by
    unfold chk at h
    split at h
    · rename_i f p z kw params body scope lpos kpos pos
      simp only [Bool.and_eq_true, decide_eq_true_eq] at h
      obtain ⟨⟨⟨⟨⟨⟨⟨⟨rfl, rfl⟩, h3⟩, h4⟩, h5⟩, h6⟩, h7⟩, h8⟩, h9⟩ := h
      obtain ⟨cc, P, hcode, B, hmT, hu⟩ := g.lm h5
      obtain ⟨kl, hrl, hl⟩ := g.lfns h5
      refine both (ve_new g.src (sortk_c (c := cc) (P := P) (k := kl) g.src g.hK g.hm (g.glob h3) (g.bn _ h4) (snd a g h6).1 (star_plain (chk_plain h6)) B hcode hmT hu hrl g.gd (scope_of h8) (args_def h7) (args_bind h7) fun A outer s H E f c' hr hgd => ?_)) fun _ => rfl
      have gg : Good C G (fun cls d _ H => E cls d H) (c.lm y scope) (cxOf (L2.CX X.prog X.w) X.prog X.w X.K X.mg X.base [y] (X.env.qual ++ "<lambda>") scope f (.ref c') A outer s H E) := ⟨g.src, rfl, by simp [Sc.lm], rfl, g.hK, g.hm, rfl, by have := hr.un; show (A.deeper _).units + 65 < cLine; omega, hgd, fun y _ _ => .inl rfl, g.bn, fun f hf => (hl f hf).elim fun i ⟨a, h1, h2, h3, h4, h5⟩ => ⟨i, a, kl, h1, h2, h3, h4, hr, h5⟩, (fun z => nomatch z), (fun z => nomatch z), (fun _ z => nomatch z), g.gcdm, takes_of rfl rfl rfl rfl⟩
      exact (snd b gg h9).1
    · cases h
  | .lc elt t it ifs own, W, c, X, g, x, h => by
    unfold chk at h
    split at h
    · rename_i e tg iter fs a scope pos
      simp only [Bool.and_eq_true, decide_eq_true_eq] at h
      obtain ⟨⟨⟨⟨⟨⟨⟨⟨⟨rfl, h2⟩, hT⟩, h3⟩, h4⟩, h5⟩, h6⟩, h7⟩, h8⟩, h9⟩ := h
      have h5' : ∀ i ∈ t.slots, i ∈ own.map (·.2) := fun i hi => of_decide_eq_true (List.all_eq_true.mp h5 i hi)
      refine both (ve_lc g.calm (by rw [g.hN]; exact g.nd) (sndI it g h2 (needT_of hT)) (by rw [g.hN, g.hsc]; exact blkOk_by h4) (fun s H C' cl fp => (g.blk s H scope C' cl fp).tg h6 h5') (fun s H C' cl fp => sndIfs ifs (g.blk s H scope C' cl fp) h7 h8) (fun s H C' cl fp => (snd elt (g.blk s H scope C' cl fp) h9).1) (folded_set h3) g.src) fun _ => rfl
    · cases h
theorem sndEs {C : Ctx} {G : Gt} : ∀ (es : Es) {W : WX} {c : Sc} {X : Cx} (g : Good C G W c X) {xs : List Expr}, chkEs c es xs = true → PA X xs (cA C W (wEs G es))
  | .nil, W, c, X, g, xs, h => by
    unfold chkEs at h
    split at h
    · exact va_nil
    · cases h
  | .cons e es, W, c, X, g, xs, h => by
    unfold chkEs at h
    split at h
    · rw [Bool.and_eq_true] at h
      exact va_cons g.src (snd e g h.1).1 (sndEs es g h.2) (star_plain (chk_plain h.1))
    · cases h
theorem sndXs {C : Ctx} {G : Gt} : ∀ (es : Xs) {W : WX} {c : Sc} {X : Cx} (g : Good C G W c X) {xs : List Expr}, chkXs c es xs = true → PA X xs (cA C W (wXs G es))
  | .nil, W, c, X, g, xs, h => by
    unfold chkXs at h
    split at h
    · exact va_nil
    · cases h
  | .one e es, W, c, X, g, xs, h => by
    unfold chkXs at h
    split at h
    · rw [Bool.and_eq_true] at h
      exact va_cons g.src (snd e g h.1).1 (sndXs es g h.2) (star_plain (chk_plain h.1))
    · cases h
  | .star e es, W, c, X, g, xs, h => by
    unfold chkXs at h
    split at h
    · rw [Bool.and_eq_true] at h
      exact va_star g.src g.hK (snd e g h.1).1 (sndXs es g h.2) rfl
    · cases h
theorem sndAnd {C : Ctx} {G : Gt} : ∀ (es : Es) {W : WX} {c : Sc} {X : Cx} (g : Good C G W c X) {xs : List Expr} {pos : Pos}, chkEs c es xs = true → PE X (.BoolOp .And xs pos) (cE C W (wAnd G es).1) ∧ PW X (.BoolOp .And xs pos) (cT C W (wAnd G es).2)
  | .nil, W, c, X, g, xs, pos, h => ⟨⟨fun pins s σ H Q I ⟨_, _, _, _, _, q, _⟩ => q.elim⟩, ⟨fun wh pins s σ H Q I ⟨_, _, _, _, _, q, _⟩ => q.elim⟩⟩
  | .cons e .nil, W, c, X, g, xs, pos, h => by
    unfold chkEs at h
    split at h
    · rw [Bool.and_eq_true] at h
      obtain ⟨h1, h2⟩ := h
      unfold chkEs at h2
      split at h2
      · exact ⟨ve_one (snd e g h1).1, vw_and1 (snd e g h1).2⟩
      · cases h2
    · cases h
  | .cons e (.cons e2 es), W, c, X, g, xs, pos, h => by
    unfold chkEs at h
    split at h
    · rw [Bool.and_eq_true] at h
      obtain ⟨h1, h2⟩ := h
      have ih := sndAnd (.cons e2 es) g h2 (pos := pos)
      unfold chkEs at h2
      split at h2
      · exact ⟨ve_and g.src (snd e g h1).1 ih.1, vw_and g.src (snd e g h1).2 ih.2⟩
      · cases h2
    · cases h
theorem sndOr {C : Ctx} {G : Gt} : ∀ (es : Es) {W : WX} {c : Sc} {X : Cx} (g : Good C G W c X) {xs : List Expr} {pos : Pos}, chkEs c es xs = true → PE X (.BoolOp .Or xs pos) (cE C W (wOr G es).1) ∧ PW X (.BoolOp .Or xs pos) (cT C W (wOr G es).2)
  | .nil, W, c, X, g, xs, pos, h => ⟨⟨fun pins s σ H Q I ⟨_, _, _, _, _, q, _⟩ => q.elim⟩, ⟨fun wh pins s σ H Q I ⟨_, _, _, _, _, q, _⟩ => q.elim⟩⟩
  | .cons e .nil, W, c, X, g, xs, pos, h => by
    unfold chkEs at h
    split at h
    · rw [Bool.and_eq_true] at h
      obtain ⟨h1, h2⟩ := h
      unfold chkEs at h2
      split at h2
      · exact ⟨ve_one (snd e g h1).1, vw_or1 (snd e g h1).2⟩
      · cases h2
    · cases h
  | .cons e (.cons e2 es), W, c, X, g, xs, pos, h => by
    unfold chkEs at h
    split at h
    · rw [Bool.and_eq_true] at h
      obtain ⟨h1, h2⟩ := h
      have ih := sndOr (.cons e2 es) g h2 (pos := pos)
      unfold chkEs at h2
      split at h2
      · exact ⟨ve_or g.src (snd e g h1).1 ih.1, vw_or g.src (snd e g h1).2 ih.2⟩
      · cases h2
    · cases h
theorem sndIfs {C : Ctx} {G : Gt} : ∀ (es : Es) {W : WX} {c : Sc} {X : Cx} (g : Good C G W c X) {xs : List Expr}, chkEs c es xs = true → xs.length ≤ 1 → PTs X xs (cT C W (wIfs G es))
  | .nil, W, c, X, g, xs, h, hl => by
    unfold chkEs at h
    split at h
    · exact vts_nil
    · cases h
  | .cons e .nil, W, c, X, g, xs, h, hl => by
    unfold chkEs at h
    split at h
    · rw [Bool.and_eq_true] at h
      obtain ⟨h1, h2⟩ := h
      unfold chkEs at h2
      split at h2
      · exact pts_one (snd e g h1).2
      · cases h2
    · cases h
  | .cons e (.cons e2 es), W, c, X, g, xs, h, hl => by
    unfold chkEs at h
    split at h
    · rw [Bool.and_eq_true] at h
      obtain ⟨h1, h2⟩ := h
      unfold chkEs at h2
      split at h2
      · simp at hl
      · cases h2
    · cases h
theorem sndP {C : Ctx} {G : Gt} : ∀ (p : P) {W : WX} {c : Sc} {X : Cx} (g : Good C G W c X) {x : Option Expr}, chkP c p x = true → PO X x (cO C W (wP G p))
  | .no, W, c, X, g, x, h => by
    unfold chkP at h
    split at h
    · exact vo_none
    · cases h
  | .at e, W, c, X, g, x, h => by
    unfold chkP at h
    split at h
    · exact vo_some (snd e g h).1
    · cases h
theorem sndI {C : Ctx} {G : Gt} : ∀ (i : I) {W : WX} {c : Sc} {X : Cx} (g : Good C G W c X) {x tg : Expr}, chkI c i x = true → (i.needT = true → isTupX tg = true) → PI X tg x (cI C W (wI G i))
  | .seq e, W, c, X, g, x, tg, h, _ => by
    unfold chkI at h
    exact vi_seq g.src g.hK (snd e g h).1
  | .rng1 e, W, c, X, g, x, tg, h, _ => by
    unfold chkI at h
    split at h
    · simp only [Bool.and_eq_true, decide_eq_true_eq] at h
      obtain ⟨⟨⟨rfl, h2⟩, h3⟩, h4⟩ := h
      have st := chk_plain h4
      refine (vi_range1 (g.glob h2) (g.bn _ h3) (va_cons g.src (snd e g h4).1 va_nil (star_plain st)) (star_plain st)).imp fun σ H R ⟨F, ρ, Qv, Ev, rel, q, k, ex⟩ => ⟨F, ρ, Qv, Ev, rel, ?_, k, ex⟩
      have e1 : (fun d => ∃ j : Int, [d] = [T.int j] ∧ -(2 ^ 62) ≤ j ∧ j < 2 ^ 62 ∧ Qv (rangeT 0 j.toNat)) = fun d => ∃ j : Int, d = T.int j ∧ -(2 ^ 62) ≤ j ∧ j < 2 ^ 62 ∧ Qv (rangeT 0 j.toNat) := by
        funext d
        simp only [List.cons.injEq, and_true]
      show (w G e).1 ρ (fun d => ∃ j : Int, [d] = [T.int j] ∧ -(2 ^ 62) ≤ j ∧ j < 2 ^ 62 ∧ Qv (rangeT 0 j.toNat)) Ev
      rw [e1]
      exact q
    · cases h
  | .enum e, W, c, X, g, x, tg, h, hT => by
    unfold chkI at h
    split at h
    · simp only [Bool.and_eq_true, decide_eq_true_eq] at h
      obtain ⟨⟨⟨rfl, h2⟩, h3⟩, h4⟩ := h
      have hT := hT rfl
      unfold isTupX at hT
      split at hT
      · exact vi_enum g.src g.hK (g.glob h2) (g.bn _ h3) (snd e g h4).1 (star_plain (chk_plain h4))
      · cases hT
    · cases h
  | .zip a b, W, c, X, g, x, tg, h, hT => by
    unfold chkI at h
    split at h
    · simp only [Bool.and_eq_true, decide_eq_true_eq] at h
      obtain ⟨⟨⟨⟨rfl, h2⟩, h3⟩, h4⟩, h5⟩ := h
      have hT := hT rfl
      unfold isTupX at hT
      split at hT
      · exact vi_zip g.src g.hK (g.glob h2) (g.bn _ h3) (snd a g h4).1 (snd b g h5).1 (by rw [star_plain (chk_plain h4)]) (star_plain (chk_plain h5))
      · cases hT
    · cases h
  | .rng2 a b, W, c, X, g, x, tg, h, _ => by
    unfold chkI at h
    split at h
    · simp only [Bool.and_eq_true, decide_eq_true_eq] at h
      obtain ⟨⟨⟨⟨rfl, h2⟩, h3⟩, h4⟩, h5⟩ := h
      have st := chk_plain h4
      have st2 := chk_plain h5
      refine (vi_range2 (g.glob h2) (g.bn _ h3) (va_cons g.src (snd a g h4).1 (va_cons g.src (snd b g h5).1 va_nil (star_plain st2)) (star_plain st)) (by rw [star_plain st, star_plain st2]; rfl) (star_plain st2)).imp fun σ H R ⟨F, ρ, Qv, Ev, rel, q, k, ex⟩ => ⟨F, ρ, Qv, Ev, rel, ?_, k, ex⟩
      have e1 : (fun d => (w G b).1 ρ (fun d' => ∃ i j : Int, [d, d'] = [T.int i, T.int j] ∧ (-(2 ^ 62) ≤ i ∧ i < 2 ^ 62 ∧ -(2 ^ 62) ≤ j ∧ j < 2 ^ 62) ∧ Qv (rangeT i (j - i).toNat)) Ev) = fun d => (w G b).1 ρ (fun d' => ∃ i j : Int, d = T.int i ∧ d' = T.int j ∧ (-(2 ^ 62) ≤ i ∧ i < 2 ^ 62 ∧ -(2 ^ 62) ≤ j ∧ j < 2 ^ 62) ∧ Qv (rangeT i (j - i).toNat)) Ev := by
        funext d
        refine congrArg (fun z => (w G b).1 ρ z Ev) (funext fun d' => ?_)
        simp only [List.cons.injEq, and_true, and_assoc]
      show (w G a).1 ρ (fun d => (w G b).1 ρ (fun d' => ∃ i j : Int, [d, d'] = [T.int i, T.int j] ∧ (-(2 ^ 62) ≤ i ∧ i < 2 ^ 62 ∧ -(2 ^ 62) ≤ j ∧ j < 2 ^ 62) ∧ Qv (rangeT i (j - i).toNat)) Ev) Ev
      rw [e1]
      exact q
    · cases h
end
end L3

/-! L3o: new things of the frame's own; several targets at once; writes. -/
namespace L3
open PySem PySem.Spec PyProof.Rows L2

section
variable {C : Ctx} {W : WX} {X : Cx} {F F1 : Addr → Prop} {H H1 : Hp} {ρ : Rho} {σ : L2.St}
/-- a list was just laid -/
theorem fin_own (hs : SrcStays C) {p : Addr} {xs : List V} {ds : List T} {Q : VK} {Qv : T → Prop} (dm : ∀ b, F1 b → ∃ o, H1 b = some o) (x1 : Ext C F H F1 H1) (hp : H1 p = none) (hd : Ds C H1 F1 xs ds) (q : Qv (.lst ds))
    (k : ∀ a d F' H', Ext C F H F' H' → OwnAt C H' F' 1 a d → (owned H' 1 a).Nodup → (∀ b ∈ owned H' 1 a, ¬ F' b ∧ H b = none ∧ ∃ o, H' b = some o ∧ LD o) → Qv d → Q (.ref a) H') : Q (.ref p) (upd H1 p (.lst xs)) := by
  have nf : ¬ F1 p := fun z => by
    obtain ⟨o, ho⟩ := dm p z
    rw [hp] at ho; cases ho
  have np : H p = none := by
    cases e : H p with
    | none => rfl
    | some o =>
      obtain ⟨o', h'⟩ := x1.trk p o e
      rw [hp] at h'; cases h'
  refine k p _ F1 _ (x1.trans (.new_tup hp)) (own_new hs hp nf hd) (by show [p].Nodup; simp) (fun b hb => ?_) q
  have e : b = p := by
    have : b ∈ [p] := hb
    simpa using this
  subst e
  exact ⟨nf, np, _, upd_same, trivial⟩
variable {e a b : Expr} {es : List Expr} {ws : WA} {wa wb : WE} {pos p2 : Pos}
theorem vf_lst (hs : SrcStays C) (h : PA X es (cA C W ws)) : PE X (.List es pos) (cF C W 1 fun ρ Q E => ws ρ (fun ds => ds.length ≤ sizeLine ∧ Q (.lst ds)) E) :=
  (pe_lst h).imp fun σ H Q ⟨F, ρ, Qv, Ev, rel, q, k, ex⟩ => ⟨F, ρ, _, Ev, rel, q, fun vs ds F1 H1 x1 hds q1 =>
    ⟨by rw [hds.length]; exact q1.1, fun p hp => fin_own hs (rel.ext hs x1).dom x1 hp hds q1.2 k⟩, ex⟩
def wCatF (d d' : T) (Q : T → Prop) : Prop :=
  match d, d' with
  | .lst xs, .lst ys => xs.length + ys.length ≤ sizeLine ∧ Q (.lst (xs ++ ys))
  | _, _ => False
theorem vf_add (hs : SrcStays C) (ha : PE X a (cE C W wa)) (hb : PE X b (cE C W wb)) : PE X (.BinOp a .Add b pos) (cF C W 1 fun ρ Q E => wa ρ (fun d => wb ρ (fun d' => wCatF d d' Q) E) E) :=
  (pe_op op_cat ha hb).imp fun σ H Q ⟨F, ρ, Qv, Ev, rel, q, k, ex⟩ => ⟨F, ρ, _, Ev, rel, q, fun v d F1 H1 x1 hd q1 =>
    ⟨F1, ρ, _, Ev, rel.ext hs x1, q1, fun v2 d2 F2 H2 x2 hd2 q2 => by
      unfold wCatF at q2
      split at q2
      · obtain ⟨a, xs, rfl, ha, fa, hx⟩ := (hd.later hs x2.later).isL
        obtain ⟨b, ys, rfl, hb, fb, hy⟩ := hd2.isL
        exact ⟨a, b, xs, ys, rfl, rfl, ha, hb, by rw [hx.length, hy.length]; exact q2.1, fun p hp => fin_own hs (rel.ext hs (x1.trans x2)).dom (x1.trans x2) hp (hx.append hy) q2.2 k⟩
      · exact q2.elim, ex.ext x1⟩, ex⟩
def wRepF (d d' : T) (Q : T → Prop) : Prop :=
  match d, d' with
  | .lst xs, .int k => (-(2 ^ 63) ≤ k ∧ k < 2 ^ 63 ∧ xs.length * k.toNat ≤ sizeLine) ∧ Q (.lst (timesT k xs))
  | _, _ => False
theorem vf_rep (hs : SrcStays C) (ha : PE X a (cE C W wa)) (hb : PE X b (cE C W wb)) : PE X (.BinOp a .Mult b pos) (cF C W 1 fun ρ Q E => wa ρ (fun d => wb ρ (fun d' => wRepF d d' Q) E) E) :=
  (pe_op op_rep ha hb).imp fun σ H Q ⟨F, ρ, Qv, Ev, rel, q, k, ex⟩ => ⟨F, ρ, _, Ev, rel, q, fun v d F1 H1 x1 hd q1 =>
    ⟨F1, ρ, _, Ev, rel.ext hs x1, q1, fun v2 d2 F2 H2 x2 hd2 q2 => by
      unfold wRepF at q2
      split at q2
      · obtain ⟨a, xs, rfl, ha, fa, hx⟩ := (hd.later hs x2.later).isL
        rw [hd2.int_eq]
        exact ⟨a, _, xs, rfl, rfl, ha, q2.1.1, q2.1.2.1, by rw [hx.length]; exact q2.1.2.2, fun p hp => fin_own hs (rel.ext hs (x1.trans x2)).dom (x1.trans x2) hp (hx.rep _) q2.2 k⟩
      · exact q2.elim, ex.ext x1⟩, ex⟩
def wListF : List T → (T → Prop) → Prop
  | [.lst xs], Q => Q (.lst xs)
  | [.tup xs], Q => Q (.lst xs)
  | _, _ => False
theorem vf_list (hs : SrcStays C) (hK : X.K = C.K) {p : Pos} (hg : Gl X "list") (hm : X.mg "list" = none) (ha : PA X (e :: es) (cA C W ws))
    (he : starEach (e :: es) X.env = (false, eval e X.env) :: starEach es X.env) (hpl : (backTo pos (starEach es X.env)).any (·.1) = false) :
    PE X (.Call (.Name "list" p) (e :: es) [] pos) (cF C W 1 fun ρ Q E => ws ρ (fun ds => wListF ds Q) E) :=
  (pe_callTy call_list_of hg hm (by decide +kernel) ha (by decide +kernel) (by decide +kernel) he hpl).imp fun σ H Q ⟨F, ρ, Qv, Ev, rel, q, k, ex⟩ => ⟨F, ρ, _, Ev, rel, q, fun vs ds F1 H1 x1 hds q1 => by
    unfold wListF at q1
    split at q1
    · obtain ⟨v, rfl, hd⟩ := hds.one
      obtain ⟨a, xs, rfl, ha, fa, hx⟩ := hd.isL
      exact ⟨a, xs, rfl, .inl (.of ha), fun p hp => fin_own hs (rel.ext hs x1).dom x1 hp hx q1 k⟩
    · obtain ⟨v, rfl, hd⟩ := hds.one
      obtain ⟨a, xs, rfl, ha, hx⟩ := hd.isT
      exact ⟨a, xs, rfl, .inr (by rw [hK]; exact ha), fun p hp => fin_own hs (rel.ext hs x1).dom x1 hp hx q1 k⟩
    · exact q1.elim, ex⟩
def wSlF (d : T) (lo hi : Option Int) (Q : T → Prop) : Prop :=
  match d with
  | .lst xs => Q (.lst (cutT xs lo hi))
  | _ => False
theorem vf_slice (hs : SrcStays C) {lo hi : Option Expr} {wl wh : WO} (he : PE X e (cE C W wa)) (hl : PO X lo (cO C W wl)) (hu : PO X hi (cO C W wh)) :
    PE X (.Subscript e (.Slice lo hi none p2) pos) (cF C W 1 fun ρ Q E => wa ρ (fun d => wl ρ (fun l => wh ρ (fun u => wSlF d l u Q) E) E) E) :=
  (pe_slice sl_list he hl hu).imp fun σ H Q ⟨F, ρ, Qv, Ev, rel, q, k, ex⟩ => ⟨F, ρ, _, Ev, rel, q, fun v d F1 H1 x1 hd q1 =>
    ⟨F1, ρ, _, Ev, rel.ext hs x1, q1, fun l F2 H2 x2 q2 => ⟨F2, ρ, _, Ev, rel.ext hs (x1.trans x2), q2, fun u F3 H3 x3 q3 => by
      unfold wSlF at q3
      split at q3
      · obtain ⟨a, xs, rfl, ha, fa, hx⟩ := (hd.later hs (x2.trans x3).later).isL
        exact ⟨a, xs, rfl, .of ha, fun p hp => fin_own hs (rel.ext hs ((x1.trans x2).trans x3)).dom ((x1.trans x2).trans x3) hp (hx.cut l u) q3 k⟩
      · exact q3.elim, ex.ext (x1.trans x2)⟩, ex.ext x1⟩, ex⟩
theorem vf_rev (hs : SrcStays C) {k : Nat} {p1 p3 : Pos} (he : PE X e (cE C W wa)) : PE X (.Subscript e (.Slice none none (some (.UnaryOp .USub (.Constant (.int 1) k p1) p2)) p3) pos) (cF C W 1 fun ρ Q E => wa ρ (fun d => wRev d Q) E) :=
  (pe_revL he).imp fun σ H Q ⟨F, ρ, Qv, Ev, rel, q, k, ex⟩ => ⟨F, ρ, _, Ev, rel, q, fun v d F1 H1 x1 hd q1 => by
    unfold wRev at q1
    split at q1
    · obtain ⟨a, xs, rfl, ha, fa, hx⟩ := hd.isL
      exact ⟨a, xs, rfl, .of ha, fun p hp => fin_own hs (rel.ext hs x1).dom x1 hp hx.reverse q1 k⟩
    · exact q1.elim, ex⟩
theorem vf_ite (hs : SrcStays C) {c : Expr} {tc : WT} (hc : PT X c (cT C W tc)) (ha : PE X a (cF C W 1 wa)) (hb : PE X b (cF C W 1 wb)) :
    PE X (.IfExp c a b pos) (cF C W 1 fun ρ Q E => tc ρ (fun k => if k = true then wa ρ Q E else wb ρ Q E) E) :=
  (pe_ifExp hc ha hb).imp fun σ H Q ⟨F, ρ, Qv, Ev, rel, q, k, ex⟩ => ⟨F, ρ, _, Ev, rel, q, fun b F1 H1 x1 q1 => by
    have kk : ∀ a d F' H', Ext C F1 H1 F' H' → OwnAt C H' F' 1 a d → (owned H' 1 a).Nodup → (∀ b ∈ owned H' 1 a, ¬ F' b ∧ H1 b = none ∧ ∃ o, H' b = some o ∧ LD o) → Qv d → Q (.ref a) H' := fun a d F2 H2 x2 ho nd lv q2 =>
      k a d F2 H2 (x1.trans x2) ho nd (fun b hb => by
        obtain ⟨h1, h2, h3⟩ := lv b hb
        refine ⟨h1, ?_, h3⟩
        cases e : H b with
        | none => rfl
        | some o =>
          obtain ⟨o', h'⟩ := x1.trk b o e
          rw [h'] at h2; cases h2) q2
    cases b with
    | true => exact ⟨F1, ρ, Qv, Ev, rel.ext hs x1, q1, kk, ex.ext x1⟩
    | false => exact ⟨F1, ρ, Qv, Ev, rel.ext hs x1, q1, kk, ex.ext x1⟩, ex⟩
end

/-! ### shared and own ones in a row -/
/-- the values, the trees, and the addresses of the own ones -/
inductive MX (C : Ctx) (H0 : Hp) (F : Addr → Prop) (H : Hp) : List Bool → List V → List T → List Addr → Prop
  | nil : MX C H0 F H [] [] [] []
  | sh {fl : List Bool} {v : V} {vs : List V} {d : T} {ds : List T} {as : List Addr} : D C H F v d → MX C H0 F H fl vs ds as → MX C H0 F H (false :: fl) (v :: vs) (d :: ds) as
  | own {fl : List Bool} {a : Addr} {vs : List V} {d : T} {ds : List T} {as : List Addr} : OwnAt C H F 1 a d → H0 a = none → a ∉ as → MX C H0 F H fl vs ds as → MX C H0 F H (true :: fl) (.ref a :: vs) (d :: ds) (a :: as)
def cM (C : Ctx) (W : WX) (fl : List Bool) (w : WA) : TA := fun σ H Q => ∃ F ρ Qv Ev, RelS C F H ρ σ ∧ w ρ Qv Ev ∧ (∀ vs ds as F' H', Ext C F H F' H' → MX C H F' H' fl vs ds as → Qv ds → Q vs H') ∧ ExOut C W F H σ Ev
section
variable {C : Ctx} {W : WX} {X : Cx} {F F1 : Addr → Prop} {H0 H H1 : Hp} {fl : List Bool} {vs : List V} {ds : List T} {as : List Addr}
theorem MX.fresh (h : MX C H0 F H fl vs ds as) : ∀ a ∈ as, H0 a = none ∧ ∃ o, H a = some o ∧ LD o := by
  induction h with
  | nil => intro a ha; cases ha
  | sh _ _ ih => exact ih
  | own h1 h2 _ _ ih =>
    intro a ha
    rcases List.mem_cons.mp ha with rfl | ha
    · exact ⟨h2, h1.root.2⟩
    · exact ih a ha
theorem MX.older {H2 : Hp} (h : MX C H0 F H fl vs ds as) (s : ∀ b, H0 b = none → H2 b = none) : MX C H2 F H fl vs ds as := by
  induction h with
  | nil => exact .nil
  | sh h1 _ ih => exact .sh h1 ih
  | own h1 h2 h3 _ ih => exact .own h1 (s _ h2) h3 ih
theorem MX.ext (hs : SrcStays C) (x : Ext C F H F1 H1) (h : MX C H0 F H fl vs ds as) : MX C H0 F1 H1 fl vs ds as := by
  induction h with
  | nil => exact .nil
  | sh h1 _ ih => exact .sh (h1.later hs x.later) ih
  | own h1 h2 h3 _ ih => exact .own (h1.ext hs x) h2 h3 ih
variable {e : Expr} {es : List Expr} {wa : WE} {ws : WA}
theorem vm_nil : PA X [] (cM C W [] fun _ Q _ => Q []) := pa_nil.imp fun σ H Q ⟨F, ρ, Qv, Ev, rel, q, k, ex⟩ => k [] [] [] F H .refl .nil q
theorem none_back {F F1 : Addr → Prop} {H H1 : Hp} (x1 : Ext C F H F1 H1) : ∀ b, H1 b = none → H b = none := fun b h => by
  cases e : H b with
  | none => rfl
  | some o =>
    obtain ⟨o', h'⟩ := x1.trk b o e
    rw [h] at h'; cases h'
theorem vm_sh (hs : SrcStays C) (ha : PE X e (cE C W wa)) (hr : PA X es (cM C W fl ws)) (h1 : starEach (e :: es) X.env = (false, eval e X.env) :: starEach es X.env) :
    PA X (e :: es) (cM C W (false :: fl) fun ρ Q E => wa ρ (fun d => ws ρ (fun ds => Q (d :: ds)) E) E) :=
  (pa_cons ha hr h1).imp fun σ H Q ⟨F, ρ, Qv, Ev, rel, q, k, ex⟩ => ⟨F, ρ, _, Ev, rel, q, fun v d F1 H1 x1 hd q1 =>
    ⟨F1, ρ, _, Ev, rel.ext hs x1, q1, fun vs ds as F2 H2 x2 hds q2 => k _ _ as F2 H2 (x1.trans x2) (.sh (hd.later hs x2.later) (hds.older (none_back x1))) q2, ex.ext x1⟩, ex⟩
theorem vm_own (hs : SrcStays C) (ha : PE X e (cF C W 1 wa)) (hr : PA X es (cM C W fl ws)) (h1 : starEach (e :: es) X.env = (false, eval e X.env) :: starEach es X.env) :
    PA X (e :: es) (cM C W (true :: fl) fun ρ Q E => wa ρ (fun d => ws ρ (fun ds => Q (d :: ds)) E) E) :=
  (pa_cons ha hr h1).imp fun σ H Q ⟨F, ρ, Qv, Ev, rel, q, k, ex⟩ => ⟨F, ρ, _, Ev, rel, q, fun a d F1 H1 x1 ho nd lv q1 =>
    ⟨F1, ρ, _, Ev, rel.ext hs x1, q1, fun vs ds as F2 H2 x2 hds q2 => k _ _ (a :: as) F2 H2 (x1.trans x2) (.own (ho.ext hs x2) (lv a (List.mem_singleton.mpr rfl)).2.1 (fun z => by
      obtain ⟨h1, _⟩ := hds.fresh a z
      obtain ⟨_, _, o, h3, _⟩ := lv a (List.mem_singleton.mpr rfl)
      rw [h1] at h3; cases h3) (hds.older (none_back x1))) q2, ex.ext x1⟩, ex⟩
/-- into the slots -/
def setM : List Nat → List Bool → List T → Rho → Rho
  | i :: is, b :: fl, d :: ds, ρ => setM is fl ds (ρ.set i (if b then .own 1 d else .sh d))
  | _, _, _, ρ => ρ
def setV : List Nat → List V → L2.St → L2.St
  | i :: is, v :: vs, σ => setV is vs (σ.set i (some v))
  | _, _, σ => σ
theorem St.setM (hs : SrcStays C) {P F0 : Addr → Prop} {Hb : Hp} (h : MX C H0 F H fl vs ds as) : ∀ {is : List Nat} {ρ : Rho} {σ : L2.St}, is.length = fl.length → St C P F0 Hb F H ρ σ → (∀ j b, b ∈ ownI H ρ σ j → b ∉ as) → (∀ b ∈ as, Hb b = none ∨ P b) →
    St C P F0 Hb F H (setM is fl ds ρ) (setV is vs σ) := by
  induction h with
  | nil => intro is ρ σ hl s _ _; cases is with
    | nil => exact s
    | cons _ _ => cases hl
  | @sh fl v vs d ds as h1 _ ih =>
    intro is ρ σ hl s ap nb
    cases is with
    | nil => cases hl
    | cons i is =>
      have s2 := s.setSh (i := i) h1
      refine ih (by simpa using hl) s2 (fun j b hb => ?_) nb
      refine ap j b ?_
      unfold ownI at hb ⊢
      by_cases hj : i = j
      · subst hj
        by_cases hlt : i < ρ.length
        · rw [if_neg Bool.false_ne_true, getD_set_self hlt] at hb; cases hb
        · rw [if_neg Bool.false_ne_true, getD_set_out (Nat.le_of_not_lt hlt), getD_set_out (by rw [← s.rel.len]; exact Nat.le_of_not_lt hlt)] at hb
          exact hb
      · rw [if_neg Bool.false_ne_true, getD_set_ne hj, getD_set_ne hj] at hb; exact hb
  | @own fl a vs d ds as h1 h2 h3 _ ih =>
    intro is ρ σ hl s ap nb
    cases is with
    | nil => cases hl
    | cons i is =>
      have s2 : St C P F0 Hb F H (ρ.set i (.own 1 d)) (σ.set i (some (.ref a))) := s.setOwn h1 (by show [a].Nodup; simp) (fun b hb => by
        have e : b = a := by
          have : b ∈ [a] := hb
          simpa using this
        subst e
        exact ⟨h1.root.1, h1.root.2, nb b List.mem_cons_self⟩) fun j b _ hb hb2 => by
          have e : b = a := by
            have : b ∈ [a] := hb2
            simpa using this
          subst e
          exact ap j b hb List.mem_cons_self
      refine ih (by simpa using hl) s2 (fun j b hb => ?_) fun b hb => nb b (List.mem_cons_of_mem _ hb)
      unfold ownI at hb
      rw [if_pos rfl] at hb
      by_cases hj : i = j
      · subst hj
        by_cases hlt : i < ρ.length
        · rw [getD_set_self hlt, getD_set_self (by rw [← s.rel.len]; exact hlt)] at hb
          have e : b = a := by
            have : b ∈ [a] := hb
            simpa using this
          subst e
          exact h3
        · rw [getD_set_out (Nat.le_of_not_lt hlt), getD_set_out (by rw [← s.rel.len]; exact Nat.le_of_not_lt hlt)] at hb
          exact fun z => ap i b hb (List.mem_cons_of_mem _ z)
      · rw [getD_set_ne hj, getD_set_ne hj] at hb
        exact fun z => ap j b hb (List.mem_cons_of_mem _ z)
theorem MX.len (h : MX C H0 F H fl vs ds as) : vs.length = fl.length ∧ ds.length = fl.length := by
  induction h with
  | nil => exact ⟨rfl, rfl⟩
  | sh _ _ ih => exact ⟨by rw [List.length_cons, List.length_cons, ih.1], by rw [List.length_cons, List.length_cons, ih.2]⟩
  | own _ _ _ _ ih => exact ⟨by rw [List.length_cons, List.length_cons, ih.1], by rw [List.length_cons, List.length_cons, ih.2]⟩
/-- the word of a, b, .. = x, y, .. -/
def wPar (l : List Nat) (is : List Nat) (fl : List Bool) (ws : WA) : WS := fun ρ D => is.length = fl.length ∧ ws (frz ρ l) (fun ds => D.nx (setM is fl ds (frz ρ l))) (D.ex (frz ρ l))
theorem par_c (hs : SrcStays C) {l is : List Nat} {D : Ends} {σ : L2.St} {H : Hp} {Q : List V → Hp → Prop} (h : cS C W (wPar l is fl ws) D σ H) (hQ : ∀ vs H', vs.length = is.length → D.nx (setV is vs σ) H' → (∀ p, H' p = none → D.nx (setV is vs σ) (upd H' p (.tup vs))) → Q vs H') : cM C W fl ws σ H Q := by
  obtain ⟨P, F0, Hb, F, ρ, Dv, s, ⟨hl, q⟩, o⟩ := h
  obtain ⟨F', s'⟩ := s.frz hs l
  refine ⟨F', _, _, _, s'.rel, q, fun vs ds as F2 H2 x hm q2 => ?_, o.exo hs s'⟩
  have fin : St C P F0 Hb F2 H2 (L3.setM is fl ds (L3.frz ρ l)) (setV is vs σ) := by
    refine St.setM hs hm hl (s'.ext hs x) (fun j b hb hb2 => ?_) fun b hb => ?_
    · rw [ownI_exts s'.rel x] at hb
      obtain ⟨_, ob, e, _⟩ := s'.rel.live j b hb
      rw [(hm.fresh b hb2).1] at e; cases e
    · exact s'.base.none (hm.fresh b hb).1
  exact hQ vs H2 (by rw [hm.len.1, hl]) (o.nx _ _ F2 H2 fin q2) fun p hp => o.nx _ _ F2 _ (fin.ext hs (.new_tup hp)) q2
end

/-! ### writes -/
section
variable {C : Ctx} {W : WX} {X : Cx} {P F0 F : Addr → Prop} {H0 H : Hp} {ρ : Rho} {σ : L2.St}
theorem St.write (hs : SrcStays C) (s : St C P F0 H0 F H ρ σ) {i : Nat} {d d' : T} {a : Addr} {o' : HO} (hi : ρ[i]? = some (.own 1 d)) (ea : σ.getD i none = some (.ref a)) (lo' : LD o') (h' : OwnAt C (upd H a o') F 1 a d') :
    St C P F0 H0 F (upd H a o') (ρ.set i (.own 1 d')) σ := by
  have hlt : i < ρ.length := (List.getElem?_eq_some_iff.mp hi).1
  have hlt' : i < σ.length := by rw [← s.rel.len]; exact hlt
  have oi : ownI H ρ σ i = [a] := ownI_own hi ea
  have es : σ.set i (some (.ref a)) = σ := by
    have e2 : σ[i]? = some (some (.ref a)) := by
      rw [List.getD_eq_getElem?_getD, List.getElem?_eq_getElem hlt'] at ea
      rw [List.getElem?_eq_getElem hlt']
      exact congrArg some ea
    refine List.ext_getElem? fun j => ?_
    by_cases hj : i = j
    · subst hj; rw [List.getElem?_set_self hlt', e2]
    · rw [List.getElem?_set_ne hj]
  obtain ⟨nf, o, ho, lo⟩ := s.rel.live i a (by rw [oi]; exact List.mem_singleton.mpr rfl)
  have f1 := s.rel.forget i (some (.ref a))
  rw [es] at f1
  have own' : ∀ j b, b ∈ ownI H (ρ.set i .un) σ j → j ≠ i ∧ b ∈ ownI H ρ σ j := fun j b hb => by
    by_cases hj : j = i
    · subst hj
      unfold ownI at hb
      rw [getD_set_self hlt] at hb
      cases hb
    · refine ⟨hj, ?_⟩
      unfold ownI at hb ⊢
      rw [getD_set_ne (Ne.symm hj)] at hb
      exact hb
  have nea : ∀ j b, b ∈ ownI H (ρ.set i .un) σ j → b ≠ a := fun j b hb z => by
    obtain ⟨hj, hb'⟩ := own' j b hb
    exact hj (s.rel.apart j i b hb' (by rw [oi, z]; exact List.mem_singleton.mpr rfl))
  have f2 : RelS C F (upd H a o') (ρ.set i .un) σ := f1.keep hs (Later.write nf ho lo) (fun j b hb => ⟨upd_ne (nea j b hb), (f1.live j b hb).1⟩) (fun b z => by
    obtain ⟨ob, hb⟩ := f1.dom b z
    exact ⟨ob, by rw [upd_ne fun e => nf (by rw [← e]; exact z)]; exact hb⟩) fun t ht => tabS_write (s.rel.tabs t ht) ho lo
  have mem1 : ∀ b, b ∈ owned (upd H a o') 1 a → b = a := fun b hb => by
    have : b ∈ [a] := hb
    simpa using this
  have ma : H0 a = none ∨ P a := s.mine i a (by rw [oi]; exact List.mem_singleton.mpr rfl)
  have e3 : ∀ j, ownI (upd H a o') (ρ.set i .un) σ j = ownI H (ρ.set i .un) σ j := fun j => ownI_keep fun b hb => upd_ne (nea j b hb)
  have f3 : St C P F0 H0 F (upd H a o') (ρ.set i .un) σ := ⟨f2, ⟨fun b ob e n nt => by
      have hb : b ≠ a := fun z => by
        subst z
        rcases ma with z | z
        · rw [z] at e; cases e
        · exact n z
      rw [upd_ne hb]; exact s.base.same b ob e n nt, s.base.fz, s.base.new, fun b ob e n => by
      have hb : b ≠ a := fun z => by
        subst z
        rcases ma with z | z
        · rw [z] at e; cases e
        · exact n z
      rw [upd_ne hb]; exact s.base.trk b ob e n, fun P q t => tabS_write (s.base.tab P q t) ho lo⟩, fun j b hb => by
    rw [e3] at hb
    exact s.mine j b (own' j b hb).2⟩
  have f4 := f3.setOwn (i := i) (k := 1) h' (by show [a].Nodup; simp) (fun b hb => by
    rw [mem1 b hb]
    exact ⟨nf, ⟨o', upd_same, lo'⟩, ma⟩) fun j b _ hb hb2 => by
      rw [e3] at hb
      exact nea j b hb (mem1 b hb2)
  rw [es, List.set_set] at f4
  exact f4
/-- name.append(e) -/
theorem vs_app (hs : SrcStays C) (hK : X.K = C.K) {o e : Expr} {we : WE} {i : Nat} {apos cpos pos : Pos} (l : List Nat) (hv : PE X o (tVar i)) (he : PE X e (cE C W we))
    (hbase : attributeBase o "append" X.env (eval o X.env) = eval o X.env) (hline : (apos.endLine == cpos.line) = true) (hst : starEach [e] X.env = [(false, eval e X.env)])
    (hfew : ((backTo cpos (starEach [e] X.env)).all (fun x => !x.1) && (backToKw cpos (keywordEach [] X.env)).all (fun x => x.1.isSome) && decide ([e].length + ([] : List Keyword).length + (if ([] : List Keyword).isEmpty then 0 else 1) < 30)) = true) :
    PS X (.Expr (.Call (.Attribute o "append" apos) [e] [] cpos) pos) (cS C W fun ρ D => ownL (frz ρ l) i fun ds => we (frz ρ l) (fun d => ds.length < sizeLine ∧ D.nx ((frz ρ l).set i (.own 1 (.lst (ds ++ [d]))))) (D.ex (frz ρ l))) :=
  (ps_expr (pe_bm PySem.F.plainAttrs_list PySem.F.slot_list_append PySem.F.type_list_append mt_append hv (pa_cons he pa_nil hst) hbase hfew hline hst rfl) rfl).imp fun D σ H ⟨P, F0, H0, F, ρ, Dv, s, q, o⟩ => by
    obtain ⟨F', s'⟩ := s.frz hs l
    obtain ⟨ds, hi, q⟩ := ownL_of q
    obtain ⟨a, xs, e1, e2, ha, nf, hx⟩ := s'.rel.ownl hi
    refine ⟨.ref a, e1, .inl ⟨rfl, xs, .of ha⟩, F', _, _, _, s'.rel, q, fun v d F2 H2 x hd q2 => ?_, o.exo hs s'⟩
    have s2 := s'.ext hs x
    obtain ⟨a', xs', e1', e2', ha', nf', hx'⟩ := s2.rel.ownl hi
    have : a' = a := by
      rw [e1] at e1'; cases e1'; rfl
    subst this
    refine ⟨a', xs', v, rfl, rfl, ha', by rw [hx'.length]; exact q2.1, o.nx _ σ F2 _ (s2.write hs hi e2' (o' := .lst (xs' ++ [v])) trivial ⟨nf', .inl ⟨_, _, rfl, upd_same, ?_⟩⟩) q2.2⟩
    exact (hx'.append (.one_of hd)).later hs (Later.write nf' ha' trivial)
end
end L3

/-! L3oa: own lists in an own list. -/
namespace L3
open PySem PySem.Spec PyProof.Rows L2
section
variable {C : Ctx} {W : WX} {X : Cx} {P F0 F F' : Addr → Prop} {H0 H H' : Hp} {ρ : Rho} {σ : L2.St}
/-- a write to anything that a name owns -/
theorem St.writeG (hs : SrcStays C) (s : St C P F0 H0 F H ρ σ) {i k : Nat} {d d' : T} {a r : Addr} {o' : HO} (hi : ρ[i]? = some (.own k d)) (ea : σ.getD i none = some (.ref r)) (hb : a ∈ owned H k r) (lo' : LD o') (h' : OwnAt C (upd H a o') F k r d') (eo : owned (upd H a o') k r = owned H k r) :
    St C P F0 H0 F (upd H a o') (ρ.set i (.own k d')) σ := by
  have hlt : i < ρ.length := (List.getElem?_eq_some_iff.mp hi).1
  have hlt' : i < σ.length := by rw [← s.rel.len]; exact hlt
  have oi : ownI H ρ σ i = owned H k r := ownI_own hi ea
  have es : σ.set i (some (.ref r)) = σ := by
    have e2 : σ[i]? = some (some (.ref r)) := by
      rw [List.getD_eq_getElem?_getD, List.getElem?_eq_getElem hlt'] at ea
      rw [List.getElem?_eq_getElem hlt']
      exact congrArg some ea
    refine List.ext_getElem? fun j => ?_
    by_cases hj : i = j
    · subst hj; rw [List.getElem?_set_self hlt', e2]
    · rw [List.getElem?_set_ne hj]
  obtain ⟨nf, o, ho, lo⟩ := s.rel.live i a (by rw [oi]; exact hb)
  have f1 := s.rel.forget i (some (.ref r))
  rw [es] at f1
  have own' : ∀ j b, b ∈ ownI H (ρ.set i .un) σ j → j ≠ i ∧ b ∈ ownI H ρ σ j := fun j b hb => by
    by_cases hj : j = i
    · subst hj
      unfold ownI at hb
      rw [getD_set_self hlt] at hb
      cases hb
    · refine ⟨hj, ?_⟩
      unfold ownI at hb ⊢
      rw [getD_set_ne (Ne.symm hj)] at hb
      exact hb
  have neo : ∀ j c, c ∈ ownI H (ρ.set i .un) σ j → c ∉ owned H k r := fun j c hc z => by
    obtain ⟨hj, hc'⟩ := own' j c hc
    exact hj (s.rel.apart j i c hc' (by rw [oi]; exact z))
  have nea : ∀ j b, b ∈ ownI H (ρ.set i .un) σ j → b ≠ a := fun j b hc z => neo j b hc (z ▸ hb)
  have f2 : RelS C F (upd H a o') (ρ.set i .un) σ := f1.keep hs (Later.write nf ho lo) (fun j b hb => ⟨upd_ne (nea j b hb), (f1.live j b hb).1⟩) (fun b z => by
    obtain ⟨ob, hb⟩ := f1.dom b z
    exact ⟨ob, by rw [upd_ne fun e => nf (by rw [← e]; exact z)]; exact hb⟩) fun t ht => tabS_write (s.rel.tabs t ht) ho lo
  have mb : ∀ c ∈ owned H k r, H0 c = none ∨ P c := fun c hc => s.mine i c (by rw [oi]; exact hc)
  have ma := mb a hb
  have e3 : ∀ j, ownI (upd H a o') (ρ.set i .un) σ j = ownI H (ρ.set i .un) σ j := fun j => ownI_keep fun b hb => upd_ne (nea j b hb)
  have f3 : St C P F0 H0 F (upd H a o') (ρ.set i .un) σ := ⟨f2, ⟨fun b ob e n nt => by
      have hb : b ≠ a := fun z => by
        subst z
        rcases ma with z | z
        · rw [z] at e; cases e
        · exact n z
      rw [upd_ne hb]; exact s.base.same b ob e n nt, s.base.fz, s.base.new, fun b ob e n => by
      have hb : b ≠ a := fun z => by
        subst z
        rcases ma with z | z
        · rw [z] at e; cases e
        · exact n z
      rw [upd_ne hb]; exact s.base.trk b ob e n, fun P q t => tabS_write (s.base.tab P q t) ho lo⟩, fun j b hb => by
    rw [e3] at hb
    exact s.mine j b (own' j b hb).2⟩
  have f4 := f3.setOwn (i := i) (k := k) h' (by rw [eo, ← oi]; exact s.rel.nodup i) (fun c hc => by
    rw [eo] at hc
    obtain ⟨nfc, oc, hoc, loc⟩ := s.rel.live i c (by rw [oi]; exact hc)
    refine ⟨nfc, ?_, mb c hc⟩
    by_cases e : c = a
    · exact ⟨o', by rw [e, upd_same], lo'⟩
    · exact ⟨oc, by rw [upd_ne e]; exact hoc, loc⟩) fun j c _ hc hc2 => by
      rw [e3] at hc
      rw [eo] at hc2
      exact neo j c hc hc2
  rw [es, List.set_set] at f4
  exact f4
theorem OwnL.at {R : Addr → T → Prop} {vs : List V} {ds : List T} (h : OwnL R vs ds) : ∀ {g : Nat} {d : T}, ds[g]? = some d → ∃ b, vs[g]? = some (.ref b) ∧ R b d := by
  induction h with
  | nil => intro g d h; simp at h
  | cons h1 _ ih =>
    intro g d hd
    cases g with
    | zero => simp at hd; subst hd; exact ⟨_, rfl, h1⟩
    | succ g => exact ih (by simpa using hd)
theorem OwnL.length {R : Addr → T → Prop} {vs : List V} {ds : List T} (h : OwnL R vs ds) : vs.length = ds.length := by
  induction h with
  | nil => rfl
  | cons _ _ ih => rw [List.length_cons, List.length_cons, ih]
theorem ref_mem {vs : List V} {g : Nat} {b : Addr} (h : vs[g]? = some (.ref b)) : b ∈ vs.filterMap refOf := List.mem_filterMap.mpr ⟨.ref b, List.mem_of_getElem? h, rfl⟩
theorem OwnL.write (hs : SrcStays C) {vs : List V} {ds : List T} (h : OwnL (OwnAt C H F 1) vs ds) (l : Later F H F H') {b : Addr} (hk : ∀ c, c ≠ b → H' c = H c) : ∀ {g : Nat} {d' : T}, (vs.filterMap refOf).Nodup → vs[g]? = some (.ref b) → OwnAt C H' F 1 b d' → OwnL (OwnAt C H' F 1) vs (ds.set g d') := by
  have keep : ∀ {c d}, c ≠ b → OwnAt C H F 1 c d → OwnAt C H' F 1 c d := fun {c d} e o => o.keep hs l fun x hx => by
    have : x = c := by simpa using (show x ∈ [c] from hx)
    subst this
    exact ⟨hk _ e, o.1⟩
  induction h with
  | nil => intro g d' _ hg; simp at hg
  | @cons a vs d ds h1 h2 ih =>
    intro g d' nd hg new
    have nd : (a :: vs.filterMap refOf).Nodup := nd
    obtain ⟨n1, n2⟩ := List.nodup_cons.mp nd
    cases g with
    | zero =>
      have e : a = b := by simpa using hg
      subst e
      refine .cons new (h2.imp fun c d m o => keep (fun e => n1 ?_) o)
      rw [← e]
      exact List.mem_filterMap.mpr ⟨.ref c, m, rfl⟩
    | succ g =>
      have hg : vs[g]? = some (.ref b) := by simpa using hg
      exact .cons (keep (fun e => n1 (by rw [e]; exact ref_mem hg)) h1) (ih n2 hg new)
theorem flat1 : ∀ l : List Addr, l.flatMap (owned H 1) = l
  | [] => rfl
  | a :: l => by rw [List.flatMap_cons, flat1 l]; rfl
theorem owned2 {a : Addr} {xs : List V} (h : H a = some (.lst xs)) : owned H 2 a = a :: xs.filterMap refOf := by
  show a :: (kids H a).flatMap (owned H 1) = _
  rw [flat1]
  unfold kids
  rw [h]
def ownLL (ρ : Rho) (i : Nat) (k : List T → Prop) : Prop :=
  match ρ[i]? with
  | some (.own 2 (.lst ds)) => k ds
  | _ => False
theorem ownLL_of {i : Nat} {k : List T → Prop} (h : ownLL ρ i k) : ∃ ds, ρ[i]? = some (.own 2 (.lst ds)) ∧ k ds := by
  unfold ownLL at h
  split at h
  · exact ⟨_, by assumption, h⟩
  · exact h.elim
theorem RelS.ownll (r : RelS C F H ρ σ) {i : Nat} {ds : List T} (hi : ρ[i]? = some (.own 2 (.lst ds))) : ∃ a xs, σ[i]? = some (some (.ref a)) ∧ σ.getD i none = some (.ref a) ∧ H a = some (.lst xs) ∧ ¬ F a ∧ OwnL (OwnAt C H F 1) xs ds ∧ (a :: xs.filterMap refOf).Nodup := by
  obtain ⟨a, ea, ho⟩ := r.slot i _ hi
  have hlt : i < σ.length := by rw [← r.len]; exact (List.getElem?_eq_some_iff.mp hi).1
  have e2 : σ[i]? = some (some (.ref a)) := by
    have ea' := ea
    rw [List.getD_eq_getElem?_getD, List.getElem?_eq_getElem hlt] at ea'
    rw [List.getElem?_eq_getElem hlt]
    exact congrArg some ea'
  have nd := r.nodup i
  rw [ownI_own hi ea] at nd
  rcases ho.2 with ⟨xs, ds', e1, h1, h2⟩ | ⟨_, _, e1, _⟩ | ⟨_, _, e1, _⟩
  · cases e1
    rw [owned2 h1] at nd
    exact ⟨a, xs, e2, ea, h1, ho.1, h2, nd⟩
  · cases e1
  · cases e1
/-- name[b].append(e), of own lists in an own list -/
theorem vs_app2 (hs : SrcStays C) (hK : X.K = C.K) {o b e : Expr} {wb we : WE} {i : Nat} {ipos apos cpos pos : Pos} (hv : PE X o (tVar i)) (hb : PE X b (cE C W wb)) (hx : PlainIx b) (he : PE X e (cE C W we))
    (hbase : attributeBase (.Subscript o b ipos) "append" X.env (eval (.Subscript o b ipos) X.env) = eval (.Subscript o b ipos) X.env) (hline : (apos.endLine == cpos.line) = true) (hst : starEach [e] X.env = [(false, eval e X.env)])
    (hfew : ((backTo cpos (starEach [e] X.env)).all (fun x => !x.1) && (backToKw cpos (keywordEach [] X.env)).all (fun x => x.1.isSome) && decide ([e].length + ([] : List Keyword).length + (if ([] : List Keyword).isEmpty then 0 else 1) < 30)) = true) :
    PS X (.Expr (.Call (.Attribute (.Subscript o b ipos) "append" apos) [e] [] cpos) pos) (cS C W fun ρ D => ownLL ρ i fun ds => wb ρ (fun d' => ∃ (g : Nat) (es : List T), d' = .int (g : Int) ∧ ds[g]? = some (.lst es) ∧ we ρ (fun d => es.length < sizeLine ∧ D.nx (ρ.set i (.own 2 (.lst (ds.set g (.lst (es ++ [d]))))))) (D.ex ρ)) (D.ex ρ)) :=
  (ps_expr (pe_bm PySem.F.plainAttrs_list PySem.F.slot_list_append PySem.F.type_list_append mt_append (pe_ix ix_seq hv hb hx) (pa_cons he pa_nil hst) hbase hfew hline hst rfl) rfl).imp fun D σ H ⟨P, F0, H0, F, ρ, Dv, s, q, o⟩ => by
    obtain ⟨ds, hi, q⟩ := ownLL_of q
    obtain ⟨a, xs, e1, e2, ha, nf, hx, nd⟩ := s.rel.ownll hi
    refine ⟨.ref a, e1, F, _, _, _, s.rel, q, fun v1 d1 F1 H1 x1 hd1 ⟨g, es, hd1e, hg, q1⟩ => ?_, o.exo hs s⟩
    subst hd1e
    have s1 := s.ext hs x1
    obtain ⟨a1, xs1, e11, e21, ha1, nf1, hx1, nd1⟩ := s1.rel.ownll hi
    have ea1 : a1 = a := by
      rw [e1] at e11; cases e11; rfl
    subst ea1
    obtain ⟨b1, hb1, ob1⟩ := hx1.at hg
    rw [hd1.int_eq]
    have at1 : L2.atI xs1 (g : Int) = some (.ref b1) := atI_nat hb1
    refine .inl ⟨a1, xs1, _, .ref b1, rfl, rfl, by rw [hK]; exact .of ha1, at1, ?_⟩
    rcases ob1.2 with ⟨ys, es', z1, z2, z3⟩ | ⟨_, _, z1, _⟩ | ⟨_, _, z1, _⟩
    · cases z1
      refine ⟨.inl ⟨rfl, ys, .of z2⟩, F1, _, _, _, s1.rel, q1, fun v d F2 H2 x hd q2 => ?_, o.exo hs s1⟩
      have s2 := s1.ext hs x
      obtain ⟨a2, xs2, e12, e22, ha2, nf2, hx2, nd2⟩ := s2.rel.ownll hi
      have ea2 : a2 = a1 := by
        rw [e11] at e12; cases e12; rfl
      subst ea2
      have exs : xs2 = xs1 := by
        have := x.same a2 _ ha1 (fun _ e => nomatch e)
        rw [ha2] at this
        injection this with this
        injection this
      subst exs
      obtain ⟨b2, hb2, ob2⟩ := hx2.at hg
      have eb : b2 = b1 := by
        rw [hb1] at hb2; cases hb2; rfl
      subst eb
      have hy2 : H2 b2 = some (.lst ys) := x.same b2 _ z2 (fun _ e => nomatch e)
      have hds : Ds C H2 F2 ys es := z3.later hs x.later
      have hin : b2 ∈ xs2.filterMap refOf := ref_mem hb2
      have nab : a2 ≠ b2 := fun e => (List.nodup_cons.mp nd2).1 (e ▸ hin)
      have hau : upd H2 b2 (.lst (ys ++ [v])) a2 = some (.lst xs2) := by rw [upd_ne nab]; exact ha2
      have lw : Later F2 H2 F2 (upd H2 b2 (.lst (ys ++ [v]))) := Later.write ob2.1 hy2 trivial
      refine ⟨b2, ys, v, rfl, rfl, hy2, by rw [hds.length]; exact q2.1, o.nx _ σ F2 _ (s2.writeG hs hi e22 (a := b2) (o' := .lst (ys ++ [v])) (by rw [owned2 ha2]; exact List.mem_cons_of_mem _ hin) trivial ⟨nf2, .inl ⟨_, _, rfl, hau, ?_⟩⟩ (by rw [owned2 ha2, owned2 hau])) q2.2⟩
      exact hx2.write hs lw (fun c e => upd_ne e) (List.nodup_cons.mp nd2).2 hb2 ⟨ob2.1, .inl ⟨_, _, rfl, upd_same, (hds.append (.one_of hd)).later hs lw⟩⟩
    · cases z1
    · cases z1
theorem OwnL.append {R : Addr → T → Prop} {vs : List V} {ds : List T} {a : Addr} {d : T} (h : OwnL R vs ds) (h1 : R a d) : OwnL R (vs ++ [.ref a]) (ds ++ [d]) := by
  induction h with
  | nil => exact .cons h1 .nil
  | cons h2 _ ih => exact .cons h2 ih
theorem refs_app {vs : List V} {a : Addr} : (vs ++ [V.ref a]).filterMap refOf = vs.filterMap refOf ++ [a] := by
  rw [List.filterMap_append]
  rfl
theorem OwnL.live {vs : List V} {ds : List T} (h : OwnL (OwnAt C H F 1) vs ds) : ∀ b ∈ vs.filterMap refOf, ¬ F b ∧ ∃ o, H b = some o ∧ LD o := by
  induction h with
  | nil => intro b hb; cases hb
  | @cons a vs d ds h1 h2 ih =>
    intro b hb
    have hb : b ∈ a :: vs.filterMap refOf := hb
    rcases List.mem_cons.mp hb with rfl | hb
    · exact h1.root
    · exact ih b hb
/-- a comprehension of new things, its list new too -/
theorem lc_own2 (hs : SrcStays C) {vs : List Nat} {wi : WI} {g : WG} {wt : WT} {we : WE} {σ : L2.St} {Q : VK}
    (h : cF C W 2 (wLcE wi g wt we vs) σ H Q) : tLc (cI C W wi) (cG C vs g) (cT C WF wt) (cF C WF 1 we) vs σ H Q := by
  obtain ⟨F0, ρ, Qv, Ev, rel, q, kk, ex⟩ := h
  refine ⟨F0, ρ, _, Ev, rel, q, fun J ds F1 H1 x1 wk q1 p hp => ?_, ex⟩
  have rel1 := rel.ext hs x1
  have np : ¬ F1 p := fun z => by
    obtain ⟨o, ho⟩ := rel1.dom p z
    rw [hp] at ho; cases ho
  have old : ∀ {b : Addr}, H1 b = none → H b = none := fun {b} hb => by
    cases e : H b with
    | none => rfl
    | some o =>
      obtain ⟨o', h'⟩ := x1.trk b o e
      rw [hb] at h'; cases h'
  have own1 : ∀ j b, b ∈ ownI H1 ρ σ j → b ≠ p := fun j b hb z => by
    subst z
    obtain ⟨_, o, ho, _⟩ := rel1.live j b hb
    rw [hp] at ho; cases ho
  refine ⟨fun i m H => m = ds.length - i ∧ i ≤ ds.length ∧ ∃ F acc as, RelS C F H ρ σ ∧ Ext C F1 H1 F H ∧ H p = some (.lst acc) ∧ ¬ F p ∧ (∀ j b, b ∈ ownI H ρ σ j → b ≠ p) ∧ OwnL (OwnAt C H F 1) acc as ∧ (p :: acc.filterMap refOf).Nodup ∧ (∀ b ∈ acc.filterMap refOf, H1 b = none) ∧ wLc g wt we (wipeT ρ vs) (fun r => Qv (.lst r)) (ds.drop i) as,
    ⟨ds.length, by simp, Nat.zero_le _, F1, [], [], rel1.ext hs (.new_tup hp), .new_tup hp, upd_same, np, fun j b hb => own1 j b (by rwa [ownI_exts rel1 (Ext.new_tup (F := F1) hp)] at hb), .nil, by simp, fun _ z => (nomatch z), by rw [List.drop_zero]; exact q1⟩, ?_⟩
  rintro i m H2 ⟨rfl, hi, F2, acc, as, r2, x2, hp2, nf2, ow2, da, nda, fra, w2⟩
  by_cases hlt : i < ds.length
  · have hd : ds[i]? = some ds[i] := List.getElem?_eq_getElem hlt
    rw [List.drop_eq_getElem_cons hlt] at w2
    refine .inr ⟨wk.go i F2 H2 hlt x2.later, fun H3 => ∃ F acc as, RelS C F H3 ρ σ ∧ Ext C F1 H1 F H3 ∧ H3 p = some (.lst acc) ∧ ¬ F p ∧ (∀ j b, b ∈ ownI H3 ρ σ j → b ≠ p) ∧ OwnL (OwnAt C H3 F 1) acc as ∧ (p :: acc.filterMap refOf).Nodup ∧ (∀ b ∈ acc.filterMap refOf, H1 b = none) ∧ wLc g wt we (wipeT ρ vs) (fun r => Qv (.lst r)) (ds.drop (i + 1)) as,
      fun H3 ⟨F3, acc3, as3, h3⟩ => ⟨ds.length - (i + 1), by omega, rfl, hlt, F3, acc3, as3, h3⟩, fun y H3 hy => ?_⟩
    obtain ⟨F3, x3, hd3⟩ := wk.yld i F2 H2 y H3 _ hd x2.later hy
    have r3 := r2.ext hs x3
    have step : ∀ {F4 : Addr → Prop} {H4 : Hp}, Ext C F2 H2 F4 H4 → RelS C F4 H4 ρ σ ∧ Ext C F1 H1 F4 H4 ∧ H4 p = some (.lst acc) ∧ ¬ F4 p ∧ (∀ j b, b ∈ ownI H4 ρ σ j → b ≠ p) ∧ OwnL (OwnAt C H4 F4 1) acc as := fun x4 =>
      ⟨r2.ext hs x4, x2.trans x4, x4.same p _ hp2 (fun _ e => nomatch e), fun z => (x4.new p z).elim nf2 fun ⟨e, _⟩ => by (rw [hp2] at e; cases e), fun j b hb => ow2 j b (by rwa [ownI_exts r2 x4] at hb), da.imp fun b d _ o => o.ext hs x4⟩
    refine ⟨_, _, _, F3, _, _, _, (r3.wipe vs).st, hd3, w2, fun ρ4 σ4 F4 H4 s4 x4 e4 w4 => ⟨e4.trans (wipe_wipe σ vs), ?_⟩⟩
    refine ⟨F4, ρ4, _, NoEx, s4.rel, w4, fun b F5 H5 x5 w5 => ?_, .no⟩
    cases b with
    | false =>
      obtain ⟨h1, h2, h3, h4, h5, h6⟩ := step ((x3.trans x4).trans x5)
      exact ⟨F5, acc, as, h1, h2, h3, h4, h5, h6, nda, fra, w5⟩
    | true =>
      refine ⟨F5, ρ4, _, NoEx, s4.rel.ext hs x5, w5, fun a d F6 H6 x6 oa _ lv ⟨hz, w6⟩ => ?_, .no⟩
      have x5' := (x3.trans x4).trans x5
      obtain ⟨h1, h2, h3, h4, h5, h6⟩ := step (x5'.trans x6)
      obtain ⟨g1, g2, g3, g4, g5, g6⟩ := step x5'
      obtain ⟨nfa, na5, _⟩ := lv a List.mem_cons_self
      have nap : a ≠ p := fun e => by rw [e, g3] at na5; cases na5
      have naa : a ∉ acc.filterMap refOf := fun z => by
        obtain ⟨_, o, ho, _⟩ := g6.live a z
        rw [na5] at ho; cases ho
      have na1 : H1 a = none := by
        cases e : H1 a with
        | none => rfl
        | some o =>
          obtain ⟨o', h'⟩ := g2.trk a o e
          rw [na5] at h'; cases h'
      have lw : Later F6 H6 F6 (upd H6 p (.lst (acc ++ [.ref a]))) := Later.write h4 h3 trivial
      have kp : ∀ {c d}, c ≠ p → OwnAt C H6 F6 1 c d → OwnAt C (upd H6 p (.lst (acc ++ [.ref a]))) F6 1 c d := fun {c d} e o => o.keep hs lw fun x hx => by
        have : x = c := by simpa using (show x ∈ [c] from hx)
        subst this
        exact ⟨upd_ne e, o.1⟩
      refine ⟨acc, h3, by rw [h6.length]; exact hz, F6, acc ++ [.ref a], as ++ [d], ?_, ?_, upd_same, h4, ?_, ?_, ?_, ?_, w6⟩
      · refine h1.keep hs lw (fun j b hb => ⟨upd_ne (h5 j b hb), (h1.live j b hb).1⟩) (fun b z => ?_) fun t ht => tabS_write (h1.tabs t ht) h3 trivial
        obtain ⟨o, ho⟩ := h1.dom b z
        by_cases e : b = p
        · exact ⟨_, by rw [e, upd_same]⟩
        · exact ⟨o, by rw [upd_ne e]; exact ho⟩
      · refine ⟨fun b o e nt => ?_, h2.fz, fun b z => (h2.new b z).imp id fun ⟨e1, o, e2⟩ => ⟨e1, ?_⟩, fun b o e => ?_, fun P q t => tabS_write (h2.tab P q t) h3 trivial⟩
        · rw [upd_ne (ne_of_none e hp)]; exact h2.same b o e nt
        · rw [upd_ne (ne_of_none e hp)]; exact h2.trk b o e
        · by_cases e : b = p
          · exact ⟨_, by rw [e, upd_same]⟩
          · exact ⟨o, by rw [upd_ne e]; exact e2⟩
      · intro j b hb
        rw [ownI_keep (H := H6) fun c hc => upd_ne (h5 j c hc)] at hb
        exact h5 j b hb
      · refine .append (h6.imp fun c d m o => kp (fun e => (List.nodup_cons.mp nda).1 ?_) o) (kp nap oa)
        rw [← e]
        exact List.mem_filterMap.mpr ⟨.ref c, m, rfl⟩
      · rw [refs_app, ← List.cons_append]
        exact List.nodup_append.mpr ⟨nda, by simp, fun x hx y hy e => by
          rw [List.mem_singleton.mp hy] at e
          rcases List.mem_cons.mp hx with z | z
          · exact nap (e.symm.trans z)
          · exact naa (e ▸ z)⟩
      · intro b hb
        rw [refs_app] at hb
        rcases List.mem_append.mp hb with hb | hb
        · exact fra b hb
        · rw [List.mem_singleton.mp hb]; exact na1
  · have e : i = ds.length := by omega
    subst e
    rw [List.drop_length] at w2
    refine .inl ⟨wk.stop F2 H2 x2.later, kk p (.lst as) F2 H2 (x1.trans x2) ⟨nf2, .inl ⟨acc, as, rfl, hp2, da⟩⟩ (by rw [owned2 hp2]; exact nda) (fun b hb => ?_) w2⟩
    rw [owned2 hp2] at hb
    rcases List.mem_cons.mp hb with rfl | hb
    · exact ⟨nf2, old hp, _, hp2, trivial⟩
    · obtain ⟨z1, z2⟩ := da.live b hb
      exact ⟨z1, old (fra b hb), z2⟩
end
end L3

/-! L3p: statements: the syntax, its words, the check, and that it is enough. -/
namespace L3
open PySem PySem.Spec PyProof.Rows L2

inductive Ms where
  | nil
  | sh (e : E) (ms : Ms)
  | own (e : E) (ms : Ms)
def Ms.fl : Ms → List Bool
  | .nil => []
  | .sh _ ms => false :: ms.fl
  | .own _ ms => true :: ms.fl
mutual
inductive S where
  | never
  | pass
  | brk
  | cont
  | retN
  | ret (l : List Nat) (e : E)
  | retOwn (i : Nat)
  | retF (l : List Nat) (e : E)
  | set (l : List Nat) (i : Nat) (e : E)
  | setF (l : List Nat) (i : Nat) (e : E)
  | setB (l : List Nat) (i : Nat) (e : E)
  | asg (l : List Nat) (t : Tg) (e : E)
  | par (l : List Nat) (is : List Nat) (ms : Ms)
  | expr (l : List Nat) (e : E)
  | app (l : List Nat) (i : Nat) (e : E)
  | setLL (l : List Nat) (i : Nat) (t : Tg) (it : I) (own : List (Str × Nat))
  | app2 (i : Nat) (b e : E)
  | ite (l : List Nat) (c : E) (a b : Ss)
  | for (l : List Nat) (t : Tg) (it : I) (b : Ss)
  | whl (l : List Nat) (c : E) (b : Ss)
inductive Ss where
  | nil
  | cons (s : S) (ss : Ss)
end
def wCallF (G : Gt) (f : Str) : List T → (T → Prop) → (Ex → Prop) → Prop := fun ds Q Ev =>
  match G f with
  | some i => i.fr = 1 ∧ wArgs i ds Q Ev
  | none => False
/-- a new thing's word -/
def wF (G : Gt) : E → WE
  | .lst es => fun ρ Q Ev => wEs G es ρ (fun ds => ds.length ≤ sizeLine ∧ Q (.lst ds)) Ev
  | .bin .add a b => fun ρ Q Ev => (w G a).1 ρ (fun d => (w G b).1 ρ (fun d' => wCatF d d' Q) Ev) Ev
  | .bin .mul a b => fun ρ Q Ev => (w G a).1 ρ (fun d => (w G b).1 ρ (fun d' => wRepF d d' Q) Ev) Ev
  | .bf .list es => fun ρ Q Ev => wEs G es ρ (fun ds => wListF ds Q) Ev
  | .sl a lo hi => fun ρ Q Ev => (w G a).1 ρ (fun d => wP G lo ρ (fun l => wP G hi ρ (fun u => wSlF d l u Q) Ev) Ev) Ev
  | .rev a => fun ρ Q Ev => (w G a).1 ρ (fun d => wRev d Q) Ev
  | .ite c a b => fun ρ Q Ev => (w G c).2 ρ (fun k => if k = true then wF G a ρ Q Ev else wF G b ρ Q Ev) Ev
  | .call f es => fun ρ Q Ev => wEs G es ρ (fun ds => wCallF G f ds Q Ev) Ev
  | .sortk a _ b => fun ρ Q Ev => (w G a).1 ρ (fun d => wSortK (w G b).1 d Q) Ev
  | .lc elt t it ifs own => wLcE (wI G it) t.w (wIfs G ifs) (w G elt).1 (own.map (·.2))
  | _ => fun _ _ _ => False
def wMs (G : Gt) : Ms → WA
  | .nil => fun _ Q _ => Q []
  | .sh e ms => fun ρ Q Ev => (w G e).1 ρ (fun d => wMs G ms ρ (fun ds => Q (d :: ds)) Ev) Ev
  | .own e ms => fun ρ Q Ev => wF G e ρ (fun d => wMs G ms ρ (fun ds => Q (d :: ds)) Ev) Ev
mutual
def wS (G : Gt) : S → WS
  | .never => fun _ _ => False
  | .pass => fun ρ D => D.nx ρ
  | .brk => fun ρ D => D.bk ρ
  | .cont => fun ρ D => D.ct ρ
  | .retN => fun _ D => D.rt 0 .non
  | .ret l e => fun ρ D => (w G e).1 (frz ρ l) (D.rt 0) (D.ex (frz ρ l))
  | .retOwn i => fun ρ D => match ρ[i]? with
    | some (.own (k + 1) d) => D.rt (k + 1) d
    | _ => False
  | .retF l e => fun ρ D => wF G e (frz ρ l) (D.rt 1) (D.ex (frz ρ l))
  | .set l i e => fun ρ D => (w G e).1 (frz ρ l) (fun d => D.nx ((frz ρ l).set i (.sh d))) (D.ex (frz ρ l))
  | .setF l i e => fun ρ D => wF G e (frz ρ l) (fun d => D.nx ((frz ρ l).set i (.own 1 d))) (D.ex (frz ρ l))
  | .setB l i e => fun ρ D => (w G e).1 (frz ρ l) (fun d => flatT d = true ∧ D.nx (ρ.set i (.sh d))) (D.ex (frz ρ l))
  | .asg l t e => fun ρ D => (w G e).1 (frz ρ l) (fun d => t.w d (frz ρ l) D.nx) (D.ex (frz ρ l))
  | .par l is ms => wPar l is ms.fl (wMs G ms)
  | .expr l e => fun ρ D => (w G e).1 (frz ρ l) (fun _ => D.nx ρ) (D.ex (frz ρ l))
  | .app l i e => fun ρ D => ownL (frz ρ l) i fun ds => (w G e).1 (frz ρ l) (fun d => ds.length < sizeLine ∧ D.nx ((frz ρ l).set i (.own 1 (.lst (ds ++ [d]))))) (D.ex (frz ρ l))
  | .setLL l i t it own => fun ρ D => wLcE (wI G it) t.w (wIfs G .nil) (wF G (.lst .nil)) (own.map (·.2)) (frz ρ l) (fun d => D.nx ((frz ρ l).set i (.own 2 d))) (D.ex (frz ρ l))
  | .app2 i b e => fun ρ D => ownLL ρ i fun ds => (w G b).1 ρ (fun d' => ∃ (g : Nat) (es : List T), d' = .int (g : Int) ∧ ds[g]? = some (.lst es) ∧ (w G e).1 ρ (fun d => es.length < sizeLine ∧ D.nx (ρ.set i (.own 2 (.lst (ds.set g (.lst (es ++ [d]))))))) (D.ex ρ)) (D.ex ρ)
  | .ite l c a b => fun ρ D => (w G c).2 (frz ρ l) (fun k => if k = true then wSs G a ρ D else wSs G b ρ D) (D.ex (frz ρ l))
  | .for l t it b => fun ρ D => wI G it (frz ρ l) (fun ds => wFor t.w (wSs G b) D ds (frz ρ l)) (D.ex (frz ρ l))
  | .whl l c b => fun ρ D => ∃ n, wWhile l (w G c).2 (wSs G b) D n ρ
def wSs (G : Gt) : Ss → WS
  | .nil => fun ρ D => D.nx ρ
  | .cons s ss => fun ρ D => wS G s ρ { D with nx := fun ρ' => wSs G ss ρ' D }
end

/-! ### the check -/
/-- whether the last store is made within a comprehension's own block -/
def swB (sc : Scope) (x : Expr) (y : Str) (py : Pos) : Bool :=
  match x with
  | .ListComp _ _ s pos => (sc.names.lookup y == some .local) && py.line == pos.line && !(s.names.any fun (n, k) => n == y && (k == .local || k == .cell))
  | .SetComp _ _ s pos => (sc.names.lookup y == some .local) && py.line == pos.line && !(s.names.any fun (n, k) => n == y && (k == .local || k == .cell))
  | .DictComp _ _ _ s pos => (sc.names.lookup y == some .local) && py.line == pos.line && !(s.names.any fun (n, k) => n == y && (k == .local || k == .cell))
  | _ => false
theorem sw_eq {env : Env} {x : Expr} {y : Str} {py : Pos} {l : Nat} (hk : env.scope.kind = .function) : swapsWith x (some (.Name y py)) l env = Pure.pure (swB env.scope x y py) := by
  have hb : env.blockKind = .function := by unfold Env.blockKind; rw [hk]; rfl
  have e : (env.blockKind == ScopeKind.function) = true := by rw [hb]; rfl
  cases x <;> first
    | rfl
    | (show (Pure.pure (env.blockKind == .function && env.kindOf y == some .local && py.line == _ && !_) : Sem Bool) = _
       rw [e, Bool.true_and]
       rfl)
def isComp : Expr → Bool
  | .ListComp _ _ _ _ => true
  | .SetComp _ _ _ _ => true
  | .DictComp _ _ _ _ _ => true
  | _ => false
theorem sw_none {env : Env} {x : Expr} {l : Nat} {t : Option Expr} (h : isComp x = false) : swapsWith x t l env = Pure.pure false := by
  cases x <;> first | rfl | cases h
theorem sw_tup {env : Env} {x : Expr} {l : Nat} {ts : List Expr} {k : Nat} {p : Pos} : swapsWith x (some (.Tuple ts k p)) l env = Pure.pure false := by
  cases x <;> rfl
/-- the names of stores that are made from the right: some (some ..): these; some none: in order; none: not served -/
def swSt (sc : Scope) (ts vs : List Expr) : Option (Option (List Str)) :=
  if !(ts.length == 2 || ts.length == 3) || vs.length != ts.length then some none
  else if vs.any fun | .Starred .. => true | _ => false then some none
  else
    let line := (ts.head?.map (·.pos.line)).getD 0
    let names := ts.filterMap fun
      | .Name id pos => if sc.names.lookup id == some .local && pos.line == line then some id else none
      | _ => none
    if names.length != ts.length || names.eraseDups.length != names.length then some none
    else if vs.all (foldedForSure 8) then some none
    else if vs.all (constantsAlone 8) then none
    else some (some names)
theorem swSt_eq {env : Env} {ts vs : List Expr} {k k2 : Nat} {p p2 : Pos} {r : Option (List Str)} (hk : env.scope.kind = .function) (h : swSt env.scope ts vs = some r) : swappedStores [.Tuple ts k p] (.Tuple vs k2 p2) env = Pure.pure r := by
  have hb : env.blockKind = .function := by unfold Env.blockKind; rw [hk]; rfl
  have e : (env.blockKind != ScopeKind.function) = false := by rw [hb]; rfl
  unfold swappedStores
  show (if (!(ts.length == 2 || ts.length == 3) || vs.length != ts.length || env.blockKind != .function) = true then _ else _ : Sem (Option (List Str))) = _
  rw [e, Bool.or_false]
  unfold swSt at h
  split at h
  · rename_i c1
    cases h
    exact (if_pos c1).trans rfl
  · rename_i c1
    refine (if_neg c1).trans ?_
    split at h
    · rename_i c2
      cases h
      exact (if_pos c2).trans rfl
    · rename_i c2
      refine (if_neg c2).trans ?_
      dsimp only at h ⊢
      split at h
      · rename_i c3
        cases h
        exact (if_pos c3).trans rfl
      · rename_i c3
        refine (if_neg c3).trans ?_
        split at h
        · rename_i c4
          cases h
          exact (if_pos c4).trans rfl
        · rename_i c4
          refine (if_neg c4).trans ?_
          split at h
          · cases h
          · rename_i c5
            cases h
            exact (if_neg c5).trans rfl
end L3

/-! L3q: the check is enough: statements. -/
namespace L3
open PySem PySem.Spec PyProof.Rows L2

/-- a new thing -/
def chkF (c : Sc) : E → Bool
  | .call f _ => decide (f ∈ c.frs)
  | .ite _ a b => chkF c a && chkF c b
  | _ => true
def Ms.chk (c : Sc) : Ms → List Expr → Bool
  | .nil, xs => match xs with
    | [] => true
    | _ => false
  | .sh e ms, xs => match xs with
    | x :: xs => L3.chk c e x && ms.chk c xs
    | _ => false
  | .own e ms, xs => match xs with
    | x :: xs => L3.chk c e x && chkF c e && ms.chk c xs
    | _ => false
def isLcE : E → Bool
  | .lc _ _ _ _ _ => true
  | _ => false
def nameOf : Expr → Str
  | .Name y _ => y
  | _ => ""
def localB (c : Sc) (y : Str) : Bool := c.sc.names.lookup y == some .local
/-- how the targets' stores go: in order, or from the right -/
def chkPar (c : Sc) (is : List Nat) (ts vs : List Expr) : Bool :=
  match swSt c.sc ts vs with
  | some none => decide (is.length ≤ 1000)
  | some (some ns) => match is, ts with
    | [i, j], [a, b] => decide (ns = [nameOf a, nameOf b]) && localB c (nameOf a) && localB c (nameOf b) && decide (i ≠ j) && decide (vs.length = 2)
    | [i, j, k], [a, b, d] => decide (ns = [nameOf a, nameOf b, nameOf d]) && localB c (nameOf a) && localB c (nameOf b) && localB c (nameOf d) && decide (i ≠ j) && decide (i ≠ k) && decide (j ≠ k) && decide (vs.length = 3)
    | _, _ => false
  | none => false
mutual
def chkS (c : Sc) : S → Stmt → Bool
  | .never, st => true
  | .pass, st => match st with
    | .Pass _ => true
    | _ => false
  | .brk, st => match st with
    | .Break _ => true
    | _ => false
  | .cont, st => match st with
    | .Continue _ => true
    | _ => false
  | .retN, st => match st with
    | .Return none _ => true
    | _ => false
  | .ret l e, st => match st with
    | .Return (some v) _ => chk c e v
    | _ => false
  | .retOwn i, st => match st with
    | .Return (some v) _ => chk c (.var i) v
    | _ => false
  | .retF l e, st => match st with
    | .Return (some v) _ => chk c e v && chkF c e
    | _ => false
  | .set l i e, st => match st with
    | .Assign [.Name y py] v _ => chkName c i y && chk c e v && (!(swB c.sc v y py) || isLcE e)
    | _ => false
  | .setF l i e, st => match st with
    | .Assign [.Name y py] v _ => chkName c i y && chk c e v && chkF c e && (!(swB c.sc v y py) || isLcE e)
    | _ => false
  | .setB l i e, st => match st with
    | .Assign [.Name y py] v _ => chkName c i y && chk c e v && !(swB c.sc v y py)
    | _ => false
  | .asg l t e, st => match st with
    | .Assign [.Tuple ts k p] v _ => t.chk c (.Tuple ts k p) && chk c e v && !(isTupX v)
    | _ => false
  | .par l is ms, st => match st with
    | .Assign [.Tuple ts _ _] (.Tuple vs _ _) _ => chkNames c is ts && ms.chk c vs && chkPar c is ts vs
    | _ => false
  | .expr l e, st => match st with
    | .Expr v _ => chk c e v && !(isComp v)
    | _ => false
  | .app l i e, st => match st with
    | .Expr (.Call (.Attribute (.Name y p) m apos) [v] [] cpos) _ => decide (m = "append") && chk c (.var i) (.Name y p) && chk c e v && (apos.endLine == cpos.line)
    | _ => false
  | .setLL l i t it own, st => match st with
    | .Assign [.Name y py] v _ => chkName c i y && chk c (.lc (.lst .nil) t it .nil own) v
    | _ => false
  | .app2 i b e, st => match st with
    | .Expr (.Call (.Attribute (.Subscript (.Name y p) z ipos) m apos) [v] [] cpos) _ => decide (m = "append") && chk c (.var i) (.Name y p) && chk c b z && plainX z && chk c e v && (apos.endLine == cpos.line)
    | _ => false
  | .ite l t a b, st => match st with
    | .If x y z _ => chk c t x && chkSs c a y && chkSs c b z
    | _ => false
  | .for l t it b, st => match st with
    | .For tg iter body [] _ => t.chk c tg && chkI c it iter && (!it.needT || isTupX tg) && noSet iter && chkSs c b body
    | _ => false
  | .whl l t b, st => match st with
    | .While x body [] _ => chk c t x && chkSs c b body
    | _ => false
def chkSs (c : Sc) : Ss → List Stmt → Bool
  | .nil, xs => match xs with
    | [] => true
    | _ => false
  | .cons s ss, xs => match xs with
    | x :: xs => chkS c s x && chkSs c ss xs
    | _ => false
end

structure GoodS (C : Ctx) (G : Gt) (W : WX) (c : Sc) (X : Cx) : Prop extends Good C G W c X where
  po : PassesOwn (model X.prog X.w) X.A X.env X.xe
  kind : c.sc.kind = .function

section
variable {C : Ctx} {G : Gt} {W : WX} {c : Sc} {X : Cx}
theorem lc_parts (g : Good C G W c X) {elt : E} {t : Tg} {it : I} {ifs : Es} {own : List (Str × Nat)} {x : Expr} (h : chk c (.lc elt t it ifs own) x = true) :
    ∃ e tg iter fs scope pos, x = .ListComp e [⟨tg, iter, fs, 0⟩] scope pos ∧ PI X tg iter (cI C W (wI G it)) ∧ BlkOk X.N X.env.scope scope own ∧
      (∀ (s : Shared) (H : Hp) (C' : Addr) (cl : List (Str × Addr)) (fp : List Addr), PG (X.blk s H scope (compEnvC scope cl C' X.env) fp) tg (cG C (own.map (·.2)) t.w)) ∧
      (∀ (s : Shared) (H : Hp) (C' : Addr) (cl : List (Str × Addr)) (fp : List Addr), PTs (X.blk s H scope (compEnvC scope cl C' X.env) fp) fs (cT C WF (wIfs G ifs))) ∧
      (∀ (s : Shared) (H : Hp) (C' : Addr) (cl : List (Str × Addr)) (fp : List Addr), PE (X.blk s H scope (compEnvC scope cl C' X.env) fp) e (cE C WF (w G elt).1)) ∧ ∀ x, foldedSetIterable iter X.env x = Pure.pure x := by
  unfold chk at h
  split at h
  · rename_i e tg iter fs a scope pos
    simp only [Bool.and_eq_true, decide_eq_true_eq] at h
    obtain ⟨⟨⟨⟨⟨⟨⟨⟨⟨rfl, h2⟩, hT⟩, h3⟩, h4⟩, h5⟩, h6⟩, h7⟩, h8⟩, h9⟩ := h
    have h5' : ∀ i ∈ t.slots, i ∈ own.map (·.2) := fun i hi => of_decide_eq_true (List.all_eq_true.mp h5 i hi)
    exact ⟨e, tg, iter, fs, scope, pos, rfl, sndI it g h2 (needT_of hT), by rw [g.hN, g.hsc]; exact blkOk_by h4, fun s H C' cl fp => (g.blk s H scope C' cl fp).tg h6 h5', fun s H C' cl fp => sndIfs ifs (g.blk s H scope C' cl fp) h7 h8, fun s H C' cl fp => (snd elt (g.blk s H scope C' cl fp) h9).1, folded_set h3⟩
  · cases h
/-- the parts of a comprehension of new things: its element is told as new; see lc_partsF -/
theorem bot {x : Expr} {k : Nat} : PE X x (cF C W k fun _ _ _ => False) := ⟨fun pins s σ H Q I ⟨_, _, _, _, _, q, _⟩ => q.elim⟩
theorem sndF : ∀ (e : E) {c : Sc} (g : Good C G W c X) {x : Expr}, chk c e x = true → chkF c e = true → PE X x (cF C W 1 (wF G e))
  | .never, c, g, x, h, hf => bot
  | .var _, c, g, x, h, hf => bot
  | .int _, c, g, x, h, hf => bot
  | .bl _, c, g, x, h, hf => bot
  | .non, c, g, x, h, hf => bot
  | .str _, c, g, x, h, hf => bot
  | .neg _, c, g, x, h, hf => bot
  | .not _, c, g, x, h, hf => bot
  | .cmp _ _ _, c, g, x, h, hf => bot
  | .and _, c, g, x, h, hf => bot
  | .or _, c, g, x, h, hf => bot
  | .tup _, c, g, x, h, hf => bot
  | .ix _ _, c, g, x, h, hf => bot
  | .ixo _ _, c, g, x, h, hf => bot
  | .isi _ _, c, g, x, h, hf => bot
  | .gcd _ _, c, g, x, h, hf => bot
  | .callS _ _, c, g, x, h, hf => bot
  | .tupS _, c, g, x, h, hf => bot
  | .maxD _ _, c, g, x, h, hf => bot
  | .join _ _, c, g, x, h, hf => bot
  | .index _ _, c, g, x, h, hf => bot
  | .cmp2 _ _ _ _ _, c, g, x, h, hf => bot
  | .bf .repr _, c, g, x, h, hf => bot
  | .bf .str _, c, g, x, h, hf => bot
  | .bin .sub _ _, c, g, x, h, hf => bot
  | .bin .fdv _ _, c, g, x, h, hf => bot
  | .bin .mod _ _, c, g, x, h, hf => bot
  | .bin .pow _ _, c, g, x, h, hf => bot
  | .bf .len _, c, g, x, h, hf => bot
  | .bf .abs _, c, g, x, h, hf => bot
  | .bf .int _, c, g, x, h, hf => bot
  | .bf .tuple _, c, g, x, h, hf => bot
  | .bf .all _, c, g, x, h, hf => bot
  | .bf .any _, c, g, x, h, hf => bot
  | .bf .sum _, c, g, x, h, hf => bot
  | .bf .max2 _, c, g, x, h, hf => bot
  | .bf .min2 _, c, g, x, h, hf => bot
  | .lst es, c, g, x, h, hf => by
    unfold chk at h
    split at h
    · exact vf_lst g.src (sndEs es g h)
    · cases h
  | .bin .add a b, c, g, x, h, hf => by
    unfold chk at h
    split at h
    · simp only [Bool.and_eq_true, decide_eq_true_eq] at h
      obtain ⟨⟨rfl, h2⟩, h3⟩ := h
      exact vf_add g.src (snd a g h2).1 (snd b g h3).1
    · cases h
  | .bin .mul a b, c, g, x, h, hf => by
    unfold chk at h
    split at h
    · simp only [Bool.and_eq_true, decide_eq_true_eq] at h
      obtain ⟨⟨rfl, h2⟩, h3⟩ := h
      exact vf_rep g.src (snd a g h2).1 (snd b g h3).1
    · cases h
  | .bf .list es, c, g, x, h, hf => by
    unfold chk at h
    split at h
    · rename_i f p xs pos
      simp only [Bool.and_eq_true, decide_eq_true_eq, Bool.not_eq_true'] at h
      obtain ⟨⟨⟨⟨rfl, h2⟩, h3⟩, h4⟩, h5⟩ := h
      cases xs with
      | nil => cases h5
      | cons y ys =>
        have st := chkEs_stars h4
        unfold noStars at st
        rw [Bool.and_eq_true] at st
        exact vf_list g.src g.hK (g.glob h2) (g.bn _ h3) (sndEs es g h4) (star_plain st.1) (any_noStars st.2)
    · cases h
  | .sl a lo hi, c, g, x, h, hf => by
    unfold chk at h
    split at h
    · simp only [Bool.and_eq_true] at h
      exact vf_slice g.src (snd a g h.1.1).1 (sndP lo g h.1.2) (sndP hi g h.2)
    · cases h
  | .rev a, c, g, x, h, hf => by
    unfold chk at h
    split at h
    · exact vf_rev g.src (snd a g h).1
    · cases h
  | .ite t a b, c, g, x, h, hf => by
    unfold chk at h
    split at h
    · simp only [Bool.and_eq_true] at h
      unfold chkF at hf
      rw [Bool.and_eq_true] at hf
      exact vf_ite g.src (snd t g h.1.1).2 (sndF a g h.1.2 hf.1) (sndF b g h.2 hf.2)
    · cases h
  | .call f es, c, g, x, h, hf => by
    unfold chk at h
    split at h
    · rename_i f' p xs pos
      simp only [Bool.and_eq_true, decide_eq_true_eq, Bool.not_eq_true'] at h
      obtain ⟨⟨⟨⟨rfl, h2⟩, h3⟩, h4⟩, h5⟩ := h
      cases xs with
      | nil => cases h5
      | cons y ys =>
        have st := chkEs_stars h4
        unfold noStars at st
        rw [Bool.and_eq_true] at st
        obtain ⟨i, a, kk, gi, hm, hk, Fn, hr, hd⟩ := g.fns _ h3
        obtain ⟨i', gi', q⟩ := g.frs _ (by unfold chkF at hf; exact of_decide_eq_true hf)
        rw [gi] at gi'
        cases gi'
        refine (vf_callI g.src (m := 0) Fn q hr g.gd (g.glob h2) hm hk g.tk (sndEs es g h4) hd (star_plain st.1) (any_noStars st.2)).imp fun σ H Q ⟨F, ρ, Qv, Ev, rel, qq, k, ex⟩ => ⟨F, ρ, Qv, Ev, rel, ?_, k, ex⟩
        have e : (fun ds => wCallF G f' ds Qv Ev) = fun ds => wArgs i ds Qv Ev := by
          funext ds
          unfold wCallF
          rw [gi]
          simp [q]
        have qq : wEs G es ρ (fun ds => wCallF G f' ds Qv Ev) Ev := qq
        rw [e] at qq
        exact qq
    · cases h
  | .sortk a y b, c, g, x, h, hf => by
    unfold chk at h
    split at h
    · rename_i f p z kw params body scope lpos kpos pos
      simp only [Bool.and_eq_true, decide_eq_true_eq] at h
      obtain ⟨⟨⟨⟨⟨⟨⟨⟨rfl, rfl⟩, h3⟩, h4⟩, h5⟩, h6⟩, h7⟩, h8⟩, h9⟩ := h
      obtain ⟨cc, P, hcode, B, hmT, hu⟩ := g.lm h5
      obtain ⟨kl, hrl, hl⟩ := g.lfns h5
      refine vf_new g.src (sortk_c (c := cc) (P := P) (k := kl) g.src g.hK g.hm (g.glob h3) (g.bn _ h4) (snd a g h6).1 (star_plain (chk_plain h6)) B hcode hmT hu hrl g.gd (scope_of h8) (args_def h7) (args_bind h7) fun A outer s H E f c' hr hgd => ?_)
      have gg : Good C G (fun cls d _ H => E cls d H) (c.lm y scope) (cxOf (L2.CX X.prog X.w) X.prog X.w X.K X.mg X.base [y] (X.env.qual ++ "<lambda>") scope f (.ref c') A outer s H E) := ⟨g.src, rfl, by simp [Sc.lm], rfl, g.hK, g.hm, rfl, by have := hr.un; show (A.deeper _).units + 65 < cLine; omega, hgd, fun y _ _ => .inl rfl, g.bn, fun f hf => (hl f hf).elim fun i ⟨a, h1, h2, h3, h4, h5⟩ => ⟨i, a, kl, h1, h2, h3, h4, hr, h5⟩, (fun z => nomatch z), (fun z => nomatch z), (fun _ z => nomatch z), g.gcdm, takes_of rfl rfl rfl rfl⟩
      exact (snd b gg h9).1
    · cases h
  | .lc elt t it ifs own, c, g, x, h, hf => by
    obtain ⟨e, tg, iter, fs, scope, pos, rfl, hi, ok, hg, ht, he, hf⟩ := lc_parts g h
    exact vf_lc g.calm (by rw [g.hN]; exact g.nd) hi ok hg ht he hf g.src
theorem sndMs : ∀ (ms : Ms) {c : Sc} (g : Good C G W c X) {xs : List Expr}, ms.chk c xs = true → PA X xs (cM C W ms.fl (wMs G ms))
  | .nil, c, g, xs, h => by
    unfold Ms.chk at h
    split at h
    · exact vm_nil
    · cases h
  | .sh e ms, c, g, xs, h => by
    unfold Ms.chk at h
    split at h
    · rw [Bool.and_eq_true] at h
      exact vm_sh g.src (snd e g h.1).1 (sndMs ms g h.2) (star_plain (chk_plain h.1))
    · cases h
  | .own e ms, c, g, xs, h => by
    unfold Ms.chk at h
    split at h
    · rw [Bool.and_eq_true, Bool.and_eq_true] at h
      exact vm_own g.src (sndF e g h.1.1 h.1.2) (sndMs ms g h.2) (star_plain (chk_plain h.1.1))
    · cases h
end
end L3

/-! L3r: the check is enough: statements, by induction; a def's promise. -/
namespace L3
open PySem PySem.Spec PyProof.Rows L2

section
variable {C : Ctx} {G : Gt} {W : WX} {c : Sc} {X : Cx}
def gRaw (is : List Nat) : TGs := fun vs σ H Q => vs.length = is.length ∧ Q (setV is vs σ) H
theorem Good.raw (g : Good C G W c X) : ∀ {is : List Nat} {es : List Expr}, chkNames c is es = true → PGs X es (gRaw is)
  | [], es, h => by
    unfold chkNames at h
    split at h
    · exact pgs_nil.imp fun vs σ H Q ⟨hl, q⟩ => by
        have e : vs = [] := List.length_eq_zero_iff.mp hl
        subst e
        exact ⟨rfl, q⟩
    · cases h
  | i :: is, es, h => by
    unfold chkNames at h
    split at h
    · rw [Bool.and_eq_true] at h
      exact (pgs_cons (g.pg h.1) (g.raw h.2) rfl).imp fun vs σ H Q ⟨hl, q⟩ => by
        cases vs with
        | nil => cases hl
        | cons v vs => exact ⟨v, vs, rfl, by simpa using hl, q⟩
    · cases h
theorem names_at {c : Sc} {i : Nat} {is : List Nat} {e : Expr} {es : List Expr} (h : chkNames c (i :: is) (e :: es) = true) : ∃ p, e = .Name (nameOf e) p ∧ c.N[i]? = some (nameOf e) ∧ chkNames c is es = true := by
  unfold chkNames at h
  cases e with
  | Name y p =>
    simp only [Bool.and_eq_true] at h
    unfold chkName at h
    simp only [Bool.and_eq_true, decide_eq_true_eq] at h
    exact ⟨p, rfl, h.1.1.1, h.2⟩
  | _ => cases h
theorem snd_par (g : GoodS C G W c X) {l is : List Nat} {ms : Ms} {ts vs : List Expr} {k k2 : Nat} {p p2 pos : Pos} (h1 : chkNames c is ts = true) (h2 : ms.chk c vs = true) (h3 : chkPar c is ts vs = true) :
    PS X (.Assign [.Tuple ts k p] (.Tuple vs k2 p2) pos) (cS C W (wPar l is ms.fl (wMs G ms))) := by
  have pa := sndMs ms g.toGood h2
  have hk : X.env.scope.kind = .function := by rw [g.hsc]; exact g.kind
  unfold chkPar at h3
  split at h3
  · rename_i e
    have hl := of_decide_eq_true h3
    have sw : swappedStores [.Tuple ts k p] (.Tuple vs k2 p2) X.env = Pure.pure none := swSt_eq hk (by rw [g.hsc]; exact e)
    have pg := pg_tup (pos := p) (k := k) g.calm (g.raw h1) (names_stars h1 X.env).1 (names_stars h1 X.env).2
    refine (ps_asg (pos := pos) (pe_tup pa) pg rfl sw rfl).imp fun D σ H h => ?_
    refine par_c (Q := fun xs H1 => xs.length ≤ sizeLine ∧ ∀ q, H1 q = none → gTup X.K is.length (gRaw is) (.ref q) σ (upd H1 q (.tup xs)) D.nx) g.src h fun xs H1 hx _ hq => ⟨by rw [hx]; exact Nat.le_trans hl (by decide), fun q hp => ⟨q, xs, rfl, .of upd_same, hx, hx, hq q hp⟩⟩
  · rename_i ns e
    split at h3
    · rename_i i j a b
      simp only [Bool.and_eq_true, decide_eq_true_eq, localB, beq_iff_eq] at h3
      obtain ⟨⟨⟨⟨en, la⟩, lb⟩, nij⟩, lv⟩ := h3
      obtain ⟨pa1, ea, na, h1'⟩ := names_at h1
      obtain ⟨pb1, eb, nb, _⟩ := names_at h1'
      obtain ⟨x, y, rfl⟩ : ∃ x y, vs = [x, y] := by
        match vs, lv with
        | [x, y], _ => exact ⟨x, y, rfl⟩
      subst en
      have sw : swappedStores [.Tuple [a, b] k p] (.Tuple [x, y] k2 p2) X.env = Pure.pure (some [nameOf a, nameOf b]) := swSt_eq hk (by rw [g.hsc]; exact e)
      rw [ea, eb] at sw ⊢
      refine (ps_par (i := i) (j := j) g.calm (by rw [g.hN]; exact g.nd) (by rw [g.hN]; exact na) (by rw [g.hN]; exact nb) nij (by rw [g.hsc]; exact la) (by rw [g.hsc]; exact lb) pa sw rfl).imp fun D σ H h => ?_
      exact par_c g.src h fun xs H1 hx hn _ => by
        match xs, hx with
        | [v, w], _ => exact ⟨v, w, rfl, hn⟩
    · rename_i i j m a b d
      simp only [Bool.and_eq_true, decide_eq_true_eq, localB, beq_iff_eq] at h3
      obtain ⟨⟨⟨⟨⟨⟨⟨en, la⟩, lb⟩, ld⟩, nij⟩, nim⟩, njm⟩, lv⟩ := h3
      obtain ⟨pa1, ea, na, h1'⟩ := names_at h1
      obtain ⟨pb1, eb, nb, h1''⟩ := names_at h1'
      obtain ⟨pd1, ed, nd, _⟩ := names_at h1''
      obtain ⟨x, y, z, rfl⟩ : ∃ x y z, vs = [x, y, z] := by
        match vs, lv with
        | [x, y, z], _ => exact ⟨x, y, z, rfl⟩
      subst en
      have sw : swappedStores [.Tuple [a, b, d] k p] (.Tuple [x, y, z] k2 p2) X.env = Pure.pure (some [nameOf a, nameOf b, nameOf d]) := swSt_eq hk (by rw [g.hsc]; exact e)
      rw [ea, eb, ed] at sw ⊢
      refine (ps_par3 (i := i) (j := j) (l := m) g.calm (by rw [g.hN]; exact g.nd) (by rw [g.hN]; exact na) (by rw [g.hN]; exact nb) (by rw [g.hN]; exact nd) nij nim njm (by rw [g.hsc]; exact la) (by rw [g.hsc]; exact lb) (by rw [g.hsc]; exact ld) pa sw rfl).imp fun D σ H h => ?_
      exact par_c g.src h fun xs H1 hx hn _ => by
        match xs, hx with
        | [u, v, w], _ => exact ⟨u, v, w, rfl, hn⟩
    · cases h3
  · cases h3
end

theorem lc_partsF {C : Ctx} {G : Gt} {W : WX} {c : Sc} {X : Cx} (g : Good C G W c X) {t : Tg} {it : I} {ifs : Es} {own : List (Str × Nat)} {x : Expr} (h : chk c (.lc (.lst .nil) t it ifs own) x = true) :
    ∃ e tg iter fs scope pos, x = .ListComp e [⟨tg, iter, fs, 0⟩] scope pos ∧ PI X tg iter (cI C W (wI G it)) ∧ BlkOk X.N X.env.scope scope own ∧
      (∀ (s : Shared) (H : Hp) (C' : Addr) (cl : List (Str × Addr)) (fp : List Addr), PG (X.blk s H scope (compEnvC scope cl C' X.env) fp) tg (cG C (own.map (·.2)) t.w)) ∧
      (∀ (s : Shared) (H : Hp) (C' : Addr) (cl : List (Str × Addr)) (fp : List Addr), PTs (X.blk s H scope (compEnvC scope cl C' X.env) fp) fs (cT C WF (wIfs G ifs))) ∧
      (∀ (s : Shared) (H : Hp) (C' : Addr) (cl : List (Str × Addr)) (fp : List Addr), PE (X.blk s H scope (compEnvC scope cl C' X.env) fp) e (cF C WF 1 (wF G (.lst .nil)))) ∧ ∀ x, foldedSetIterable iter X.env x = Pure.pure x := by
  unfold chk at h
  split at h
  · rename_i e tg iter fs a scope pos
    simp only [Bool.and_eq_true, decide_eq_true_eq] at h
    obtain ⟨⟨⟨⟨⟨⟨⟨⟨⟨rfl, h2⟩, hT⟩, h3⟩, h4⟩, h5⟩, h6⟩, h7⟩, h8⟩, h9⟩ := h
    have h5' : ∀ i ∈ t.slots, i ∈ own.map (·.2) := fun i hi => of_decide_eq_true (List.all_eq_true.mp h5 i hi)
    exact ⟨e, tg, iter, fs, scope, pos, rfl, sndI it g h2 (needT_of hT), by rw [g.hN, g.hsc]; exact blkOk_by h4, fun s H C' cl fp => (g.blk s H scope C' cl fp).tg h6 h5', fun s H C' cl fp => sndIfs ifs (g.blk s H scope C' cl fp) h7 h8, fun s H C' cl fp => sndF (.lst .nil) (g.blk s H scope C' cl fp) h9 (by rfl), folded_set h3⟩
  · cases h
mutual
theorem sndS {C : Ctx} {G : Gt} {W : WX} {X : Cx} : ∀ (s : S) {c : Sc} (g : GoodS C G W c X) {st : Stmt}, chkS c s st = true → PS X st (cS C W (wS G s))
  | .never, c, g, st, h => vs_never
  | .pass, c, g, st, h => by
    unfold chkS at h
    split at h
    · exact vs_pass
    · cases h
  | .brk, c, g, st, h => by
    unfold chkS at h
    split at h
    · exact vs_break
    · cases h
  | .cont, c, g, st, h => by
    unfold chkS at h
    split at h
    · exact vs_cont
    · cases h
  | .retN, c, g, st, h => by
    unfold chkS at h
    split at h
    · exact vs_retN
    · cases h
  | .ret l e, c, g, st, h => by
    unfold chkS at h
    split at h
    · exact vs_ret g.src l (snd e g.toGood h).1
    · cases h
  | .retOwn i, c, g, st, h => by
    unfold chkS at h
    split at h
    · unfold chk at h
      split at h
      · simp only [Bool.and_eq_true, decide_eq_true_eq, Bool.not_eq_true'] at h
        obtain ⟨⟨⟨h1, h2⟩, h3⟩, h4⟩ := h
        exact (vs_retOwn (i := i) (pe_var (by rw [g.hN]; exact h1) (g.vis h2) h3 h4)).imp fun D σ H ⟨P, F0, H0, F, ρ, Dv, s, q, o⟩ => ⟨P, F0, H0, F, ρ, Dv, s, by
          have q : (match ρ[i]? with
            | some (.own (k + 1) d) => Dv.rt (k + 1) d
            | _ => False) := q
          split at q
          · exact ⟨_, _, by assumption, q⟩
          · exact q.elim, o⟩
      · cases h
    · cases h
  | .retF l e, c, g, st, h => by
    unfold chkS at h
    split at h
    · rw [Bool.and_eq_true] at h
      exact vs_retF (k := 0) g.src l (sndF e g.toGood h.1 h.2)
    · cases h
  | .set l i e, c, g, st, h => by
    unfold chkS at h
    split at h
    · rename_i y py v pos
      simp only [Bool.and_eq_true, Bool.or_eq_true, Bool.not_eq_true'] at h
      obtain ⟨⟨h1, h2⟩, h3⟩ := h
      have hk : X.env.scope.kind = .function := by rw [g.hsc]; exact g.kind
      have hN : X.N.Nodup := by rw [g.hN]; exact g.nd
      unfold chkName at h1
      simp only [Bool.and_eq_true, decide_eq_true_eq] at h1
      obtain ⟨⟨h11, h12⟩, h13⟩ := h1
      have hn : X.N[i]? = some y := by rw [g.hN]; exact h11
      have hf : X.fn y = true ∨ X.env.scope.names.lookup y = some .local := (g.fn y h13 h12).imp id fun z => by rw [g.hsc]; exact z
      cases q : swB c.sc v y py with
      | false =>
        exact (ps_set hN hn (g.loc h12) (snd e g.toGood h2).1 (by rw [sw_eq hk, g.hsc, q]) hf).imp fun D σ H h => set_c g.src l h
      | true =>
        rcases h3 with h3 | h3
        · rw [q] at h3; cases h3
        · cases e with
          | lc elt t it ifs own =>
            obtain ⟨e', tg, iter, fs, scope, p', rfl, hi, ok, hg, ht, he, hfo⟩ := lc_parts g.toGood h2
            have hyl : X.env.scope.names.lookup y = some .local := by
              rw [g.hsc]
              unfold swB at q
              simp only [Bool.and_eq_true, beq_iff_eq] at q
              exact q.1.1
            exact vs_setLc g.calm hN hi ok hg ht he hfo g.src l hn hyl (by rw [sw_eq hk, g.hsc, q])
          | _ => cases h3
    · cases h
  | .setF l i e, c, g, st, h => by
    unfold chkS at h
    split at h
    · rename_i y py v pos
      simp only [Bool.and_eq_true, Bool.or_eq_true, Bool.not_eq_true'] at h
      obtain ⟨⟨⟨h1, h2⟩, hfr⟩, h3⟩ := h
      have hk : X.env.scope.kind = .function := by rw [g.hsc]; exact g.kind
      have hN : X.N.Nodup := by rw [g.hN]; exact g.nd
      unfold chkName at h1
      simp only [Bool.and_eq_true, decide_eq_true_eq] at h1
      obtain ⟨⟨h11, h12⟩, h13⟩ := h1
      have hn : X.N[i]? = some y := by rw [g.hN]; exact h11
      have hf : X.fn y = true ∨ X.env.scope.names.lookup y = some .local := (g.fn y h13 h12).imp id fun z => by rw [g.hsc]; exact z
      cases q : swB c.sc v y py with
      | false =>
        exact (ps_set hN hn (g.loc h12) (sndF e g.toGood h2 hfr) (by rw [sw_eq hk, g.hsc, q]) hf).imp fun D σ H h => setF_c g.src l h
      | true =>
        rcases h3 with h3 | h3
        · rw [q] at h3; cases h3
        · cases e with
          | lc elt t it ifs own =>
            obtain ⟨e', tg, iter, fs, scope, p', rfl, hi, ok, hg, ht, he, hfo⟩ := lc_parts g.toGood h2
            have hyl : X.env.scope.names.lookup y = some .local := by
              rw [g.hsc]
              unfold swB at q
              simp only [Bool.and_eq_true, beq_iff_eq] at q
              exact q.1.1
            exact vs_setLcF g.calm hN hi ok hg ht he hfo g.src l hn hyl (by rw [sw_eq hk, g.hsc, q])
          | _ => cases h3
    · cases h
  | .setB l i e, c, g, st, h => by
    unfold chkS at h
    split at h
    · rename_i y py v pos
      simp only [Bool.and_eq_true, Bool.not_eq_true'] at h
      obtain ⟨⟨h1, h2⟩, q⟩ := h
      have hk : X.env.scope.kind = .function := by rw [g.hsc]; exact g.kind
      have hN : X.N.Nodup := by rw [g.hN]; exact g.nd
      unfold chkName at h1
      simp only [Bool.and_eq_true, decide_eq_true_eq] at h1
      obtain ⟨⟨h11, h12⟩, h13⟩ := h1
      have hn : X.N[i]? = some y := by rw [g.hN]; exact h11
      have hf : X.fn y = true ∨ X.env.scope.names.lookup y = some .local := (g.fn y h13 h12).imp id fun z => by rw [g.hsc]; exact z
      exact (ps_set hN hn (g.loc h12) (snd e g.toGood h2).1 (by rw [sw_eq hk, g.hsc, q]) hf).imp fun D σ H h => setB_c g.src l h
    · cases h
  | .asg l t e, c, g, st, h => by
    unfold chkS at h
    split at h
    · simp only [Bool.and_eq_true, Bool.not_eq_true'] at h
      obtain ⟨⟨h1, h2⟩, h3⟩ := h
      rename_i ts k p v pos
      refine vs_asg g.src l (snd e g.toGood h2).1 (g.tg h1 fun i hi => hi) (sw_tup (l := pos.line) (env := X.env) (ts := ts) (k := k) (p := p)) ?_ rfl
      cases v <;> first | rfl | cases h3
    · cases h
  | .par l is ms, c, g, st, h => by
    unfold chkS at h
    split at h
    · simp only [Bool.and_eq_true] at h
      exact snd_par g h.1.1 h.1.2 h.2
    · cases h
  | .expr l e, c, g, st, h => by
    unfold chkS at h
    split at h
    · simp only [Bool.and_eq_true, Bool.not_eq_true'] at h
      exact vs_expr g.src l (snd e g.toGood h.1).1 (sw_none h.2)
    · cases h
  | .app l i e, c, g, st, h => by
    unfold chkS at h
    split at h
    · rename_i y p m apos v cpos pos
      simp only [Bool.and_eq_true, decide_eq_true_eq] at h
      obtain ⟨⟨⟨rfl, h2⟩, h3⟩, h4⟩ := h
      unfold chk at h2
      simp only [Bool.and_eq_true, decide_eq_true_eq, Bool.not_eq_true'] at h2
      obtain ⟨⟨⟨h21, h22⟩, h23⟩, h24⟩ := h2
      have st := star_plain (es := []) (env := X.env) (chk_plain h3)
      exact vs_app g.src g.hK l (pe_var (by rw [g.hN]; exact h21) (g.vis h22) h23 h24) (snd e g.toGood h3).1 rfl h4 st (by rw [st]; rfl)
    · cases h
  | .setLL l i t it own, c, g, st, h => by
    unfold chkS at h
    split at h
    · rename_i y py v pos
      simp only [Bool.and_eq_true] at h
      obtain ⟨h1, h2⟩ := h
      have hk : X.env.scope.kind = .function := by rw [g.hsc]; exact g.kind
      have hN : X.N.Nodup := by rw [g.hN]; exact g.nd
      unfold chkName at h1
      simp only [Bool.and_eq_true, decide_eq_true_eq] at h1
      obtain ⟨⟨h11, h12⟩, h13⟩ := h1
      have hn : X.N[i]? = some y := by rw [g.hN]; exact h11
      have hf : X.fn y = true ∨ X.env.scope.names.lookup y = some .local := (g.fn y h13 h12).imp id fun z => by rw [g.hsc]; exact z
      cases q : swB c.sc v y py with
      | false =>
        obtain ⟨e', tg, iter, fs, scope, p', rfl, hi, ok, hg, ht, he, hfo⟩ := lc_partsF g.toGood h2
        exact (ps_set hN hn (g.loc h12) ((pe_lc g.calm hN hi ok hg ht he hfo).imp fun _ _ _ h => lc_own2 g.src h) (by rw [sw_eq hk, g.hsc, q]) hf).imp fun D σ H h => setF_c g.src l h
      | true =>
        obtain ⟨e', tg, iter, fs, scope, p', rfl, hi, ok, hg, ht, he, hfo⟩ := lc_partsF g.toGood h2
        have hyl : X.env.scope.names.lookup y = some .local := by
          rw [g.hsc]
          unfold swB at q
          simp only [Bool.and_eq_true, beq_iff_eq] at q
          exact q.1.1
        exact (ps_setLc g.calm hN hn hyl (by rw [sw_eq hk, g.hsc, q]) hi ok hg ht he hfo).imp fun D σ H h => by
          obtain ⟨F, ρ, Qv, Ev, q⟩ := setF_c (we := wLcE (wI G it) t.w (wIfs G .nil) (wF G (.lst .nil)) (own.map (·.2))) (i := i) (k := 2) g.src l h
          exact lc_own2 g.src ⟨F, ρ, Qv, Ev, q⟩
    · cases h
  | .app2 i b e, c, g, st, h => by
    unfold chkS at h
    split at h
    · rename_i y p z ipos m apos v cpos pos
      simp only [Bool.and_eq_true, decide_eq_true_eq] at h
      obtain ⟨⟨⟨⟨⟨rfl, h2⟩, h5⟩, h6⟩, h3⟩, h4⟩ := h
      unfold chk at h2
      simp only [Bool.and_eq_true, decide_eq_true_eq, Bool.not_eq_true'] at h2
      obtain ⟨⟨⟨h21, h22⟩, h23⟩, h24⟩ := h2
      have st := star_plain (es := []) (env := X.env) (chk_plain h3)
      exact vs_app2 g.src g.hK (pe_var (by rw [g.hN]; exact h21) (g.vis h22) h23 h24) (snd b g.toGood h5).1 (plain_ix h6) (snd e g.toGood h3).1 rfl h4 st (by rw [st]; rfl)
    · cases h
  | .ite l t a b, c, g, st, h => by
    unfold chkS at h
    split at h
    · simp only [Bool.and_eq_true] at h
      exact vs_if g.src l (snd t g.toGood h.1.1).2 (sndSs a g h.1.2) (sndSs b g h.2)
    · cases h
  | .for l t it b, c, g, st, h => by
    unfold chkS at h
    split at h
    · simp only [Bool.and_eq_true] at h
      exact vs_for g.src l g.po g.calm (sndI it g.toGood h.1.1.1.2 (needT_of h.1.1.2)) (g.tg h.1.1.1.1 fun i hi => hi) (sndSs b g h.2) (folded_set h.1.2)
    · cases h
  | .whl l t b, c, g, st, h => by
    unfold chkS at h
    split at h
    · simp only [Bool.and_eq_true] at h
      exact vs_while g.src l g.po (snd t g.toGood h.1).2 (sndSs b g h.2)
    · cases h
theorem sndSs {C : Ctx} {G : Gt} {W : WX} {X : Cx} : ∀ (ss : Ss) {c : Sc} (g : GoodS C G W c X) {sts : List Stmt}, chkSs c ss sts = true → PSs X sts (cS C W (wSs G ss))
  | .nil, c, g, sts, h => by
    unfold chkSs at h
    split at h
    · exact vss_nil
    · cases h
  | .cons s ss, c, g, sts, h => by
    unfold chkSs at h
    split at h
    · simp only [Bool.and_eq_true] at h
      have q := vss_cons (w := wS G s) (w' := wSs G ss) (sndS s g h.1) (sndSs ss g h.2)
      exact q
    · cases h
end
end L3

/-! L3s: a def of the text, checked, keeps its word. -/
namespace L3
open PySem PySem.Spec PyProof.Rows L2

def Has (P : Program) (w : World) (base : Heap) (C : Ctx) (G : Gt) (k : Nat) (x : Str) : Prop :=
  ∃ i a, G x = some i ∧ C.mg x = some (.ref a) ∧ PySem.W.keepIn C.K (.ref a) = true ∧ FnP P w C.K C.mg base k a (spI C i) ∧ (x == ("__debug__" : Str)) = false
theorem Has.mono {P : Program} {w : World} {base : Heap} {C : Ctx} {G : Gt} {j k : Nat} {x : Str} (h : Has P w base C G j x) (l : j ≤ k) : Has P w base C G k x :=
  let ⟨i, a, h1, h2, h3, h5, h6⟩ := h
  ⟨i, a, h1, h2, h3, h5.mono l, h6⟩
/-- what a def's body is run with -/
def endsOf (fr : Nat) (Q : T → Prop) (E : Ex → Prop) : Dv := { nx := fun _ => fr = 0 ∧ Q .non, rt := fun m d => (fr = 0 ∨ m = fr) ∧ Q d, ex := fun _ x => E x }
/-- the text's side, all by decide -/
structure Text (G : Gt) (st : Stmt) (N ps : List Str) (c : Sc) (b : Ss) : Prop where
  sc : FnScope N ps (defScope st)
  cN : c.N = N
  csc : c.sc = defScope st
  osc : c.osc = defScope st
  chk : chkSs c b (defBody st) = true
/-- the table of a def that makes lambdas -/
def LamAt (C : Ctx) (base : Heap) (fd : FuncData) (x : Str) : Prop := ∃ cc P, fd.code = .ref cc ∧ LamX.TabB base C.mg cc P ∧ (P, x ++ ".<locals>." ++ "<lambda>") ∈ C.tabs ∧ ∀ p ∈ C.tabs, p.1 = P → p.2 = x ++ ".<locals>." ++ "<lambda>"
section
variable {P : Program} {w : World} {base : Heap} {C : Ctx} {G : Gt} {k : Nat} {x : Str} {st : Stmt} {a : Addr} {fd : FuncData} {N ps : List Str} {c : Sc} {b : Ss} {i : FnInfo}
theorem body_def (hs : SrcStays C) (T0 : Text G st N ps c b)
    (bn : ∀ y ∈ c.bn, C.mg y = none) (fns : ∀ f ∈ c.fns, Has P w base C G k f) (frs : ∀ f ∈ c.frs, ∃ i, G f = some i ∧ i.fr = 1) (hg : c.gcd = true → C.mg "gcd" = some (.builtin "math.gcd"))
    (lf : c.lam = true → ∃ kl, kl + 3 ≤ k ∧ ∀ f ∈ c.lfns, Has P w base C G kl f) (lm : c.lam = true → LamAt C base fd x) (cdv : Value) (hcv : fd.code = cdv) (A : Around) (outer : List Env) (s : Shared) (H : Hp) (E : XK)
    (hr : Room k (A.deeper (envOfC x (defScope st) s.heap.objs.size a cdv))) (hgd : (A.deeper (envOfC x (defScope st) s.heap.objs.size a cdv)).guards = some []) :
    PSs (cxOf (L2.CX P w) P w C.K C.mg base N x (defScope st) a cdv A outer s H E) (defBody st) (cS C (fun cls d _ H => E cls d H) (wSs G b)) := by
  refine sndSs b ⟨⟨hs, T0.cN.symm, by rw [T0.cN]; exact T0.sc.nd, T0.csc.symm, rfl, rfl, rfl, ?_, hgd, fun y _ _ => .inl rfl, bn, fun f hf => ?_, fun z => ?_, fun z => ?_, frs, hg, takes_of rfl rfl rfl rfl⟩, passes_of rfl, by rw [T0.csc]; exact T0.sc.kind⟩ T0.chk
  · have := hr.un
    show (A.deeper _).units + 65 < cLine
    omega
  · obtain ⟨i, a, h1, h2, h3, h5, h6⟩ := fns f hf
    exact ⟨i, a, k, h1, h2, h3, h5, hr, h6⟩
  · obtain ⟨kl, hl, h⟩ := lf z
    exact ⟨kl, hr.mono hl, fun f hf => (h f hf).elim fun i ⟨a, h1, h2, h3, h5, h6⟩ => ⟨i, a, h1, h2, h3, h5, h6⟩⟩
  · obtain ⟨cc, Q, h1, h2, h3, h4⟩ := lm z
    exact ⟨cc, Q, hcv.symm.trans h1, h2, h3, h4⟩
theorem fnG_def (hs : SrcStays C)
    (T0 : Text G st N ps c b) (hn : ps.length = i.n) (F : Fun C.K x x st a fd)
    (bn : ∀ y ∈ c.bn, C.mg y = none) (fns : ∀ f ∈ c.fns, Has P w base C G k f) (frs : ∀ f ∈ c.frs, ∃ i, G f = some i ∧ i.fr = 1) (hg : c.gcd = true → C.mg "gcd" = some (.builtin "math.gcd"))
    (lf : c.lam = true → ∃ kl, kl + 3 ≤ k ∧ ∀ f ∈ c.lfns, Has P w base C G kl f) (lm : c.lam = true → LamAt C base fd x)
    (h : ∀ ds Q E, ds.length = i.n → i.sp ds Q E → wSs G b (startT N ds) (endsOf i.fr Q E)) : FnG P w C.K C.mg base (k + 1) a fd ps (spV C i.n i.fr i.sp) :=
  fn_ok hs F T0.sc hn (wb := wSs G b) (fun cdv hcv A outer s H E hr hgd => body_def hs T0 bn fns frs hg lf lm cdv hcv A outer s H E hr hgd) h
theorem has_def (hs : SrcStays C)
    (T0 : Text G st N ps c b) (hi : G x = some i) (hn : ps.length = i.n) (h100 : i.n < 100) (F : Fun C.K x x st a fd) (hb : L2.Binds C.K fd ps []) (hm : C.mg x = some (.ref a)) (hd : (x == ("__debug__" : Str)) = false)
    (bn : ∀ y ∈ c.bn, C.mg y = none) (fns : ∀ f ∈ c.fns, Has P w base C G k f) (frs : ∀ f ∈ c.frs, ∃ i, G f = some i ∧ i.fr = 1) (hg : c.gcd = true → C.mg "gcd" = some (.builtin "math.gcd"))
    (lf : c.lam = true → ∃ kl, kl + 3 ≤ k ∧ ∀ f ∈ c.lfns, Has P w base C G kl f) (lm : c.lam = true → LamAt C base fd x)
    (h : ∀ ds Q E, ds.length = i.n → i.sp ds Q E → wSs G b (startT N ds) (endsOf i.fr Q E)) : Has P w base C G (k + 1) x :=
  ⟨i, a, hi, hm, F.kp, ((fnG_def hs T0 hn F bn fns frs hg lf lm h).pos hb).info h100, hd⟩
/-- .. with a star -/
theorem has_defS {pv : Str} {m fr : Nat} {sp : VSp} (hs : SrcStays C)
    (T0 : Text G st N (ps ++ [pv]) c b) (hi : G x = some ⟨m + 100, fr, sp⟩) (hn : ps.length = m) (F : Fun C.K x x st a fd) (hbd : ∀ us rest : List Value, us.length = ps.length → bindArgs fd ⟨us ++ rest, []⟩ = (newTuple rest >>= fun t => pure (ps.zip us ++ [(pv, t)])))
    (hm : C.mg x = some (.ref a)) (hd : (x == ("__debug__" : Str)) = false)
    (bn : ∀ y ∈ c.bn, C.mg y = none) (fns : ∀ f ∈ c.fns, Has P w base C G k f) (frs : ∀ f ∈ c.frs, ∃ i, G f = some i ∧ i.fr = 1) (hg : c.gcd = true → C.mg "gcd" = some (.builtin "math.gcd"))
    (lf : c.lam = true → ∃ kl, kl + 3 ≤ k ∧ ∀ f ∈ c.lfns, Has P w base C G kl f) (lm : c.lam = true → LamAt C base fd x)
    (h : ∀ ds Q E, ds.length = m + 1 → sp ds Q E → wSs G b (startT N ds) (endsOf fr Q E)) : Has P w base C G (k + 1) x :=
  ⟨_, a, hi, hm, F.kp, fn_okS hs F T0.sc hn hbd (wb := wSs G b) (fun cdv hcv A outer s H E hr hgd => body_def hs T0 bn fns frs hg lf lm cdv hcv A outer s H E hr hgd) h, hd⟩
theorem Has.of_fn (hi : G x = some i) (h100 : i.n < 100) (hm : C.mg x = some (.ref a)) (hk : PySem.W.keepIn C.K (.ref a) = true) (hb : L2.Binds C.K fd ps [])
    (F : FnG P w C.K C.mg base k a fd ps (spV C i.n i.fr i.sp)) (hd : (x == ("__debug__" : Str)) = false) : Has P w base C G k x := ⟨i, a, hi, hm, hk, (F.pos hb).info h100, hd⟩
end
end L3

/-! L3t: the drawn source: what it is, and that another description of a heap will do. -/
namespace L3
open PySem PySem.Spec PyProof.Rows L2

abbrev kCells : Key := .inr "cells"
abbrev kLeft : Key := .inr "left"
abbrev kMixed : Key := .inr "mixed"
abbrev kTurn : Key := .inr "turn"
def kvS (c : Addr) (l m t : Int) : List (Key × V) := [(kCells, .ref c), (kLeft, .int l), (kMixed, .int m), (kTurn, .int t)]
theorem ne1 : ¬ Str.ofString "cells" = Str.ofString "left" := by decide +kernel
theorem ne2 : ¬ Str.ofString "cells" = Str.ofString "mixed" := by decide +kernel
theorem ne3 : ¬ Str.ofString "cells" = Str.ofString "turn" := by decide +kernel
theorem ne4 : ¬ Str.ofString "left" = Str.ofString "mixed" := by decide +kernel
theorem ne5 : ¬ Str.ofString "left" = Str.ofString "turn" := by decide +kernel
theorem ne6 : ¬ Str.ofString "mixed" = Str.ofString "turn" := by decide +kernel
theorem ne7 : ¬ Str.ofString "mixed" = Str.ofString "left" := by decide +kernel
theorem ne8 : ¬ Str.ofString "turn" = Str.ofString "left" := by decide +kernel
theorem ne9 : ¬ Str.ofString "turn" = Str.ofString "mixed" := by decide +kernel
theorem put_left {c : Addr} {l m t l' : Int} : putK (kvS c l m t) kLeft (.int l') = kvS c l' m t := by
  simp [putK, kvS, kCells, kLeft, kMixed, kTurn, ne1, ne2, ne3, ne4, ne5, ne6, ne7, ne8, ne9]
theorem put_turn {c : Addr} {l m t t' : Int} : putK (kvS c l m t) kTurn (.int t') = kvS c l m t' := by
  simp [putK, kvS, kCells, kLeft, kMixed, kTurn, ne1, ne2, ne3, ne4, ne5, ne6, ne7, ne8, ne9]
theorem get_cells {c : Addr} {l m t : Int} : valV (kvS c l m t) kCells = some (.ref c) := rfl
theorem get_left {c : Addr} {l m t : Int} : valV (kvS c l m t) kLeft = some (.int l) := by
  simp [valV, kvS, kCells, kLeft, kMixed, kTurn, ne1, ne2, ne3, ne4, ne5, ne6, ne7, ne8, ne9]
theorem get_mixed {c : Addr} {l m t : Int} : valV (kvS c l m t) kMixed = some (.int m) := by
  simp [valV, kvS, kCells, kLeft, kMixed, kTurn, ne1, ne2, ne3, ne4, ne5, ne6, ne7, ne8, ne9]
theorem get_turn {c : Addr} {l m t : Int} : valV (kvS c l m t) kTurn = some (.int t) := by
  simp [valV, kvS, kCells, kLeft, kMixed, kTurn, ne1, ne2, ne3, ne4, ne5, ne6, ne7, ne8, ne9]
/-- the source at a, its cells at c, the rest as H0 -/
def SrcAt (H0 : Hp) (a c : Addr) (H : Hp) : Prop := c ≠ a ∧ (∃ l m t, H a = some (.dK (kvS c l m t))) ∧ (∃ cs : List Int, H c = some (.lst (cs.map V.int))) ∧ ∀ b, b ≠ a → b ≠ c → H b = H0 b
theorem SrcAt.putA {H0 H : Hp} {a c : Addr} (h : SrcAt H0 a c H) (l m t : Int) : SrcAt H0 a c (upd H a (.dK (kvS c l m t))) := by
  obtain ⟨h1, h2, ⟨cs, h3⟩, h4⟩ := h
  exact ⟨h1, ⟨l, m, t, upd_same⟩, ⟨cs, by rw [upd_ne h1]; exact h3⟩, fun b x y => by rw [upd_ne x]; exact h4 b x y⟩
theorem SrcAt.putC {H0 H : Hp} {a c : Addr} (h : SrcAt H0 a c H) (cs : List Int) : SrcAt H0 a c (upd H c (.lst (cs.map V.int))) := by
  obtain ⟨h1, ⟨l, m, t, h2⟩, _, h4⟩ := h
  exact ⟨h1, ⟨l, m, t, by rw [upd_ne h1.symm]; exact h2⟩, ⟨cs, upd_same⟩, fun b x y => by rw [upd_ne y]; exact h4 b x y⟩

section
variable (P : Program) (w : World)
def phiA (a c : Addr) (h : Heap) : Prop := ∃ l m t : Int, ObjOk P w (fun _ => none) h a (.dK (kvS c l m t))
def phiC (c : Addr) (h : Heap) : Prop := ∃ cs : List Int, ObjOk P w (fun _ => none) h c (.lst (cs.map V.int))
/-- .. told by what is true of its two objects -/
def SrcX (H : Hp) (a : Addr) : Prop := ∃ c, c ≠ a ∧ H a = some (.ext (phiA P w a c)) ∧ H c = some (.ext (phiC P w c))
end
section
variable {P : Program} {w : World} {H H' : Hp} {h h1 h2 : Heap} {a c : Addr}
theorem phiA_keep (x : phiA P w a c h1) (k : ∀ o, h1.get? a = some o → h2.get? a = some o) : phiA P w a c h2 := by
  obtain ⟨l, m, t, z, n, vs, r, o, es, ep, e, ex, ed, ks, pr, nd⟩ := x
  exact ⟨l, m, t, z, n, vs, r, o, es, ep, k o e, ex, ed, ks, pr, nd⟩
theorem phiC_keep (x : phiC P w c h1) (k : ∀ o, h1.get? c = some o → h2.get? c = some o) : phiC P w c h2 := by
  obtain ⟨cs, z, its, n, r, e⟩ := x
  exact ⟨cs, z, its, n, r, k _ e⟩
theorem phiA_ok (x : phiA P w a c h) : ObjOk P w H h a (.ext (phiA P w a c)) := by
  have x0 := x
  obtain ⟨l, m, t, z, n, vs, r, o, es, ep, e, _⟩ := x
  exact ⟨x0, ⟨o, e⟩, fun _ _ => phiA_keep⟩
theorem phiC_ok (x : phiC P w c h) : ObjOk P w H h c (.ext (phiC P w c)) := by
  have x0 := x
  obtain ⟨cs, z, its, n, r, e⟩ := x
  exact ⟨x0, ⟨_, e⟩, fun _ _ => phiC_keep⟩
/-- no tuple and no dict of an instance: nothing else is told by it -/
def Loose : HO → Prop
  | .tup _ => False
  | .own _ => False
  | _ => True
theorem objOk_move {b : Addr} {o : HO} (e : ∀ b u, H b = some u → ¬ Loose u → H' b = some u) (x : ObjOk P w H h b o) : ObjOk P w H' h b o := by
  induction o with
  | dT kvs =>
    obtain ⟨z, n, xs, pr, r⟩ := x
    exact ⟨z, n, xs, L2.Paired.mapP pr fun p q ⟨y1, y2, y3⟩ => ⟨y1, e _ _ y2 (fun z => z), y3⟩, r⟩
  | ins C dx fs =>
    obtain ⟨y, r⟩ := x
    exact ⟨e _ _ y (fun z => z), r⟩
  | frz ob u ih => exact ⟨x.1, ih x.2⟩
  | lst xs => exact x
  | tup xs => exact x
  | dK kvs => exact x
  | set S n => exact x
  | own y => exact x
  | xd fs => exact x
  | rng l h => exact x
  | tbl ps => exact x
  | met f y => exact x
  | ext φ => exact x
end
/-- tracked the same, and what is no loose thing stays -/
structure Redo (H H' : Hp) : Prop where
  none : ∀ b, H b = none ↔ H' b = none
  keep : ∀ b u, H b = some u → ¬ Loose u → H' b = some u
  frz : ∀ b o u, H b = some (.frz o u) → H' b = some (.frz o u)
  tbl : ∀ b ps, H b = some (.tbl ps) → H' b = some (.tbl ps)
theorem Redo.hok {P : Program} {w : World} {H H' : Hp} {h : Heap} (r : Redo H H') (x : HOk P w H h) (n : ∀ b u, H' b = some u → H b = some u ∨ ObjOk P w H' h b u) : HOk P w H' h := fun b u e => by
  rcases n b u e with z | z
  · exact objOk_move r.keep (x b u z)
  · exact z
/-- a def's promise by another description of the heap -/
theorem FnG.redo {P : Program} {w : World} {K : PySem.W.Frag} {mg : Str → Option Value} {base : Heap} {k : Nat} {f : Addr} {fd : FuncData} {ps : List Str} {sp0 sp : Sp} (F : FnG P w K mg base k f fd ps sp0) (hl : ∀ vs H Q E, sp vs H Q E → vs.length = ps.length)
    (h : ∀ vs H Q E h0, HOk P w H h0 → sp vs H Q E → ∃ H1, Redo H H1 ∧ HOk P w H1 h0 ∧
      sp0 vs H1 (fun v H2 => ∃ H3, (∀ b, H2 b = none → H3 b = none) ∧ (∀ b u, H2 b = some u → ¬ Loose u → H3 b = some u) ∧ (∀ b o u, H2 b = some (.frz o u) → H3 b = some (.frz o u)) ∧ (∀ b p, H2 b = some (.tbl p) → H3 b = some (.tbl p)) ∧ (∀ hh, HOk P w H2 hh → HOk P w H3 hh) ∧ Q v H3) (fun _ _ _ => False)) : FnG P w K mg base k f fd ps sp := by
  refine ⟨hl, fun A outer s H args us vs Q E hr hg e0 hb r hs => ?_⟩
  obtain ⟨H1, rd, hok1, q⟩ := h vs H Q E s.heap e0.hok hs
  have e1 : Env0 P w K mg base A outer s H1 := ⟨e0.frames, e0.mod, fun b o e => ⟨(e0.bs b o e).1, (rd.none b).mp (e0.bs b o e).2⟩, e0.bsz, e0.funs, fun b hb => (rd.none b).mp (e0.frf b hb), hok1, e0.bare⟩
  refine codeAny_mono (F.run A outer s H1 args us vs _ _ hr hg e1 hb r q) fun r s' hq => ?_
  cases r with
  | error e =>
    obtain ⟨_, _, _, _, _, _, _, _, _, _, _, _, z⟩ := (show L2.CX P w outer H1 s (fun _ _ _ => False) e s' from hq)
    exact z.elim
  | ok fl =>
    cases fl with
    | next => exact False.elim hq
    | brk => exact False.elim hq
    | cont => exact False.elim hq
    | ret u =>
      obtain ⟨v, H2, os, bare, un, hok2, rv, H3, n3, k3, f3, t3, o3, q3⟩ := hq
      refine ⟨v, H3, os, bare, ⟨fun b o e n => un.keep b o e ((rd.none b).mp n), fun b o e n => un.slot b o e ((rd.none b).mp n), fun b o e n hx => n3 b (un.free b o e ((rd.none b).mp n) hx), un.there, fun b xs e => k3 b _ (un.tups b xs (rd.keep b _ e fun z => z)) fun z => z, fun b o u e => f3 b o u (un.frzs b o u (rd.frz b o u e)), fun b ps e => ?_⟩, o3 _ hok2, rv, q3⟩
      obtain ⟨more, z⟩ := un.tbls b ps (rd.tbl b ps e)
      exact ⟨more, t3 b _ z⟩
end L3
namespace L3
open PySem PySem.Spec PyProof.Rows L2
/-- * where one factor is small -/
theorem op_mulS {X : Cx} : OpR X (binaryOp .Mult) (rI IntMulOk fun i j => .int (i * j)) := opI fun _ _ _ _ _ _ _ hc q => mul_int q hc
end L3
namespace L3
open PySem PySem.Spec PyProof.Rows L2
theorem merge_kvS {c : Addr} {l m t : Int} : mergeK [] (kvS c l m t) = kvS c l m t := by
  simp [mergeK, putK, kvS, kCells, kLeft, kMixed, kTurn, ne1, ne2, ne3, ne4, ne5, ne6, ne7, ne8, ne9]
theorem same_new {H : Hp} {p : Addr} {o : HO} (h : H p = none) : Same H (upd H p o) := fun b x e => by
  rw [upd_ne (ne_of_none e h)]
  exact e
theorem none_upd {H : Hp} {p q : Addr} {o : HO} (h : upd H q o p = none) : p ≠ q ∧ H p = none := by
  by_cases e : p = q
  · subst e; rw [upd_same] at h; cases h
  · rw [upd_ne e] at h; exact ⟨e, h⟩
end L3

/-! L3u: the source in the tree's language. -/
namespace L3
open PySem PySem.Spec PyProof.Rows L2

/-- the drawn script -/
def ScriptAt (K : PySem.W.Frag) (H : Hp) (a : Addr) : Prop := ∃ ns : List Int, ns.length ≤ 63 ∧ ((∃ o, H a = some (.frz o (.lst (ns.map V.int)))) ∨ ∀ H', SqL K H' a (ns.map V.int))
def ctx (P : Program) (w : World) (K : PySem.W.Frag) (mg : Str → Option Value) (T : List (Addr × Str) := []) : Ctx := ⟨K, mg, fun k H a => match k with
  | 0 => ScriptAt K H a
  | _ => SrcX P w H a, T⟩
theorem ctx_stays {P : Program} {w : World} {K : PySem.W.Frag} {mg : Str → Option Value} {T : List (Addr × Str)} : SrcStays (ctx P w K mg T) := fun k H H' a h e => by
  match k with
  | 0 =>
    obtain ⟨ns, hl, h⟩ := h
    exact ⟨ns, hl, h.imp (fun ⟨o, h⟩ => ⟨o, e _ _ (fun z => z) (fun _ z => nomatch z) h⟩) id⟩
  | k + 1 =>
    obtain ⟨c, hc, h1, h2⟩ := h
    exact ⟨c, hc, e _ _ (fun z => z) (fun _ z => nomatch z) h1, e _ _ (fun z => z) (fun _ z => nomatch z) h2⟩
def spOpen : VSp := fun ds Q _ => ∃ a, ds = [.src 0 a] ∧ ∀ b, Q (.src 1 b)
def spPick : VSp := fun ds Q _ => ∃ a n, ds = [.src 1 a, .int n] ∧ n < 2 ^ 200 ∧ ∀ r : Int, 0 ≤ r → (r < n ∨ r = 0) → Q (.int r)
def spOpen0 (K : PySem.W.Frag) : Sp := fun vs H Q _ => ∃ (a0 : Addr) (ns : List Int), vs = [.ref a0] ∧ SqL K H a0 (ns.map V.int) ∧ ns.length ≤ 63 ∧ ∀ a c H', c ≠ a → H a = none → H c = none → (∃ l m t, H' a = some (.dK (kvS c l m t))) → (∃ cs : List Int, H' c = some (.lst (cs.map V.int))) → Same H H' → Q (.ref a) H'
def spPick0 : Sp := fun vs H Q _ => ∃ a c n, vs = [.ref a, .int n] ∧ n < 2 ^ 200 ∧ SrcAt H a c H ∧ ∀ (r : Int) H', SrcAt H a c H' → 0 ≤ r → (r < n ∨ r = 0) → Q (.int r) H'
theorem Redo.refl {H : Hp} : Redo H H := ⟨fun _ => Iff.rfl, fun _ _ h _ => h, fun _ _ _ h => h, fun _ _ h => h⟩
section
variable {P : Program} {w : World} {K : PySem.W.Frag} {mg : Str → Option Value} {base : Heap} {k : Nat} {f : Addr} {fd : FuncData} {ps : List Str} {T : List (Addr × Str)}
/-- the source told anew -/
def reX (P : Program) (w : World) (H : Hp) (a c : Addr) : Hp := upd (upd H c (.ext (phiC P w c))) a (.ext (phiA P w a c))
theorem reX_ne {H : Hp} {a c b : Addr} (h1 : b ≠ a) (h2 : b ≠ c) : reX P w H a c b = H b := by unfold reX; rw [upd_ne h1, upd_ne h2]
theorem reX_a {H : Hp} {a c : Addr} : reX P w H a c a = some (.ext (phiA P w a c)) := upd_same
theorem reX_c {H : Hp} {a c : Addr} (h : c ≠ a) : reX P w H a c c = some (.ext (phiC P w c)) := by unfold reX; rw [upd_ne h, upd_same]
theorem reX_src {H : Hp} {a c : Addr} (h : c ≠ a) : SrcX P w (reX P w H a c) a := ⟨c, h, reX_a, reX_c h⟩
theorem reX_keep {H : Hp} {a c : Addr} (hA : ∃ l m t, H a = some (.dK (kvS c l m t))) (hC : ∃ cs : List Int, H c = some (.lst (cs.map V.int))) :
    (∀ b, H b = none → reX P w H a c b = none) ∧ (∀ b u, H b = some u → ¬ Loose u → reX P w H a c b = some u) ∧ (∀ b o u, H b = some (.frz o u) → reX P w H a c b = some (.frz o u)) ∧ (∀ b p, H b = some (.tbl p) → reX P w H a c b = some (.tbl p)) ∧ ∀ hh, HOk P w H hh → HOk P w (reX P w H a c) hh := by
  obtain ⟨l, m, t, hA⟩ := hA
  obtain ⟨cs, hC⟩ := hC
  have ne : ∀ {b u}, H b = some u → (∀ kvs, u ≠ .dK kvs) → (∀ xs, u ≠ .lst xs) → b ≠ a ∧ b ≠ c := fun {b u} e n1 n2 =>
    ⟨fun z => by subst z; rw [hA] at e; cases e; exact n1 _ rfl, fun z => by subst z; rw [hC] at e; cases e; exact n2 _ rfl⟩
  have k3 : ∀ b u, H b = some u → ¬ Loose u → reX P w H a c b = some u := fun b u e n => by
    obtain ⟨h1, h2⟩ := ne e (fun _ z => by subst z; exact n trivial) fun _ z => by subst z; exact n trivial
    rw [reX_ne h1 h2]; exact e
  refine ⟨fun b n => ?_, k3, fun b o u e => ?_, fun b p e => ?_, fun hh ok b u e => ?_⟩
  · rw [reX_ne (fun z => by subst z; rw [hA] at n; cases n) (fun z => by subst z; rw [hC] at n; cases n)]; exact n
  · obtain ⟨h1, h2⟩ := ne e (fun _ z => nomatch z) fun _ z => nomatch z
    rw [reX_ne h1 h2]; exact e
  · obtain ⟨h1, h2⟩ := ne e (fun _ z => nomatch z) fun _ z => nomatch z
    rw [reX_ne h1 h2]; exact e
  · by_cases h1 : b = a
    · subst h1
      rw [reX_a] at e
      cases e
      exact phiA_ok ⟨l, m, t, ok b _ hA⟩
    · by_cases h2 : b = c
      · subst h2
        unfold reX at e
        rw [upd_ne h1, upd_same] at e
        cases e
        exact phiC_ok ⟨cs, ok b _ hC⟩
      · rw [reX_ne h1 h2] at e
        exact objOk_move k3 (ok b u e)
theorem open_has (F : FnG P w K mg base k f fd ps (spOpen0 K)) (hps : ps.length = 1) : FnG P w K mg base k f fd ps (spV (ctx P w K mg T) 1 0 spOpen) := by
  refine F.redo (fun vs H Q E ⟨_, _, _, _, h, _⟩ => h.trans hps.symm) fun vs H Q E h0 ok h => ⟨H, .refl, ok, ?_⟩
  obtain ⟨F0, ds, Qv, Ev, _, dm, _, hds, ⟨a0, rfl, qv⟩, r0, _, _⟩ := h
  obtain ⟨v, rfl, hd⟩ := hds.one
  cases hd with
  | src hs =>
    obtain ⟨ns, hl, hs⟩ := (show ScriptAt K H a0 from hs)
    refine ⟨a0, ns, rfl, ?_, hl, fun a c H' hca na nc hA hC sm => ?_⟩
    · rcases hs with ⟨o, e⟩ | hs
      · exact .inl (.inr ⟨o, e⟩)
      · exact hs H
    · obtain ⟨n3, k3, f3, t3, o3⟩ := reX_keep (P := P) (w := w) hA hC
      refine ⟨reX P w H' a c, n3, k3, f3, t3, o3, r0 rfl _ _ F0 _ (.of (fun b u e => ?_) (fun _ z => z) fun _ z => .inl z) (.src (k := 1) (show SrcX P w _ a from reX_src hca)) (qv a)⟩
      rw [reX_ne (ne_of_none e na) (ne_of_none e nc)]
      exact sm b u e
theorem pick_has (F : FnG P w K mg base k f fd ps spPick0) (hps : ps.length = 2) : FnG P w K mg base k f fd ps (spV (ctx P w K mg T) 2 0 spPick) := by
  refine F.redo (fun vs H Q E ⟨_, _, _, _, h, _⟩ => h.trans hps.symm) fun vs H Q E h0 ok h => ?_
  obtain ⟨F0, ds, Qv, Ev, _, dm, _, hds, ⟨a, n, rfl, hn, qv⟩, r0, _, _⟩ := h
  obtain ⟨v, v', rfl, hd, hd'⟩ := hds.two
  obtain rfl := hd'.int_eq
  cases hd with
  | src hs =>
    obtain ⟨c, hca, hA, hC⟩ := (show SrcX P w H a from hs)
    obtain ⟨⟨l, m, t, oA⟩, _⟩ := ok a _ hA
    obtain ⟨⟨cs, oC⟩, _⟩ := ok c _ hC
    have hH1 : ∀ b, b ≠ a → b ≠ c → upd (upd H c (.lst (cs.map V.int))) a (.dK (kvS c l m t)) b = H b := fun b h1 h2 => by rw [upd_ne h1, upd_ne h2]
    have ne : ∀ {b u}, H b = some u → (∀ φ, u ≠ .ext φ) → b ≠ a ∧ b ≠ c := fun {b u} e n1 =>
      ⟨fun z => by subst z; rw [hA] at e; cases e; exact n1 _ rfl, fun z => by subst z; rw [hC] at e; cases e; exact n1 _ rfl⟩
    have rd : Redo H (upd (upd H c (.lst (cs.map V.int))) a (.dK (kvS c l m t))) := by
      refine ⟨fun b => ?_, fun b u e nl => ?_, fun b o u e => ?_, fun b p e => ?_⟩
      · by_cases h1 : b = a
        · subst h1; rw [upd_same, hA]; exact ⟨fun z => (nomatch z), fun z => (nomatch z)⟩
        · by_cases h2 : b = c
          · subst h2; rw [upd_ne h1, upd_same, hC]; exact ⟨fun z => (nomatch z), fun z => (nomatch z)⟩
          · rw [hH1 b h1 h2]
      · obtain ⟨h1, h2⟩ := ne e fun _ z => by subst z; exact nl trivial
        rw [hH1 b h1 h2]; exact e
      · obtain ⟨h1, h2⟩ := ne e fun _ z => nomatch z
        rw [hH1 b h1 h2]; exact e
      · obtain ⟨h1, h2⟩ := ne e fun _ z => nomatch z
        rw [hH1 b h1 h2]; exact e
    refine ⟨_, rd, rd.hok ok fun b u e => ?_, a, c, n, rfl, hn, ⟨hca, ⟨l, m, t, upd_same⟩, ⟨cs, by rw [upd_ne hca, upd_same]⟩, fun _ _ _ => rfl⟩, fun r H' hS hr0 hr1 => ?_⟩
    · by_cases h1 : b = a
      · subst h1; rw [upd_same] at e; cases e; exact .inr oA
      · by_cases h2 : b = c
        · subst h2; rw [upd_ne h1, upd_same] at e; cases e; exact .inr oC
        · rw [hH1 b h1 h2] at e; exact .inl e
    · obtain ⟨_, hA', hC', hR⟩ := hS
      obtain ⟨n3, k3, f3, t3, o3⟩ := reX_keep (P := P) (w := w) hA' hC'
      refine ⟨reX P w H' a c, n3, k3, f3, t3, o3, r0 rfl _ _ F0 _ (.of (fun b u e => ?_) (fun _ z => z) fun _ z => .inl z) (.int r) (qv r hr0 hr1)⟩
      by_cases h1 : b = a
      · subst h1; rw [reX_a, ← hA]; exact e
      · by_cases h2 : b = c
        · subst h2; rw [reX_c hca, ← hC]; exact e
        · rw [reX_ne h1 h2, hR b h1 h2, hH1 b h1 h2]; exact e
end
end L3

/-! L3v: the end of a law. -/
namespace L3
open PySem PySem.Spec PyProof.Rows L2

def spLaw : VSp := fun ds Q _ => ∃ a, ds = [.src 0 a] ∧ Q (.bl true)
theorem law_end {P : Program} {w : World} {K : PySem.W.Frag} {mg mb : Str → Option Value} {k : Nat} {fa a : Addr} {fd : FuncData} {x : Str} {s₁ : Shared} {vs : List Value} {ns : List Int}
    (KX : K.In s₁.heap) (hns : s₁.heap.Ns mainGlobals mg) (hb : s₁.heap.Ns builtinsNs mb) (hbb : ∀ x : Str, x ≠ "__name__" → mb x = bootBuiltins x) (hlim : s₁.heap.NoLimit) (hg : s₁.gens = #[])
    (ha : s₁.heap.get? a = some { cls := .type "list", data := .seq vs.toArray }) (hi : IntsAre vs ns) (hl : ns.length ≤ 63) (hr : Room k callerA)
    (F : ∀ base : Heap, K.In base → base.Ns mainGlobals mg → FnG P w K mg base k fa fd [x] (spV (ctx P w K mg) 1 0 spLaw)) (hbind : ∀ (s : Shared) (u : Value), BindsTo s fd ⟨[u], []⟩ [(x, u)]) :
    codeAny (model P w) callerA (.call (.ref fa) ⟨[.ref a], []⟩) (fun r s' => r = .ok (.ret (.bool true)) ∧ OldK s₁.heap s'.heap ∧ s'.os = s₁.os ∧ AllBare s'.gens) s₁ := by
  have rv := vals_ints hi
  have lenV := hi.length
  have hlz : ns.length ≤ sizeLine := Nat.le_trans hl (by decide)
  -- nothing but the script is told of, and it is locked
  have core : ∀ H : Hp, (∀ b u, H b = some u → b = a ∧ u = .frz { cls := .type "list", data := .seq vs.toArray } (.lst (ns.map V.int))) → ScriptAt K H a → HOk P w H s₁.heap → (H a ≠ none → K.lookup a = none) →
      codeAny (model P w) callerA (.call (.ref fa) ⟨[.ref a], []⟩) (fun r s' => r = .ok (.ret (.bool true)) ∧ OldK s₁.heap s'.heap ∧ s'.os = s₁.os ∧ AllBare s'.gens) s₁ := by
    intro H hA hS hok hK
    have base_of : ∀ {b : Addr} {o : Obj}, s₁.heap.get? b = some o → H b = none → (hidT s₁.heap H).get? b = some o := fun e n => hidT_get e n
    have noA : ∀ {b : Addr} {o : Obj} {es : Array DictEntry} {ep : Nat}, s₁.heap.get? b = some o → o.data = .dict es ep → H b = none := fun {b o es ep} e d => by
      cases q : H b with
      | none => rfl
      | some u =>
        obtain ⟨rfl, _⟩ := hA b u q
        rw [ha] at e; cases e
        have d' : Data.seq vs.toArray _ = Data.dict es ep := d
        cases d'
    have nsK : ∀ {b : Addr} {m : Str → Option Value}, s₁.heap.Ns b m → (hidT s₁.heap H).Ns b m := fun {b m} ⟨o, es, ep, e, d, r⟩ => ⟨o, es, ep, base_of e (noA e d), d, r⟩
    have hKb : K.In (hidT s₁.heap H) := fun b o e => base_of (KX b o e) (by
      cases q : H b with
      | none => rfl
      | some u =>
        obtain ⟨rfl, _⟩ := hA b u q
        rw [hK (by rw [q]; simp)] at e; cases e)
    have hM : Mod K mg (hidT s₁.heap H) := ⟨hKb, nsK hns, ⟨mb, nsK hb, hbb⟩, let ⟨mc, h1, h2⟩ := hlim; ⟨mc, nsK h1, h2⟩⟩
    have e0 : Env0 P w K mg (hidT s₁.heap H) callerA [] s₁ H := ⟨rfl, hM, fun b o e => of_hidT e, Nat.le_of_eq (hidT_size _ _), trivial, fun b hb => absurd (show b ∈ ([] : List Addr) from hb) (by simp), hok, .of_eq hg⟩
    have sp1 : spV (ctx P w K mg) 1 0 spLaw [.ref a] H (fun v _ => v = .bl true) (fun _ _ _ => False) :=
      ⟨fun b => ∃ u, H b = some u, [.src 0 a], fun d => d = .bl true, fun _ => False, rfl, fun b h => h, (fun _ z => nomatch z), .cons (.src (k := 0) (show ScriptAt K H a from hS)) .nil, ⟨a, rfl, rfl⟩,
        fun _ v d F' H' _ hd e => by subst e; exact hd.bl_eq, fun k z => (nomatch z), fun cls dx F' H' y _ _ z => z⟩
    refine codeAny_mono ((F _ hKb (nsK hns)).run callerA [] s₁ H ⟨[.ref a], []⟩ [.ref a] [.ref a] _ _ hr rfl e0 (hbind s₁ (.ref a)) (.cons rfl .nil) sp1) fun r s' h => ?_
    cases r with
    | error e =>
      obtain ⟨_, _, _, _, _, _, _, _, _, _, _, _, z⟩ := (show L2.CX P w [] H s₁ (fun _ _ _ => False) e s' from h)
      exact z.elim
    | ok fl =>
      cases fl with
      | next => exact False.elim h
      | brk => exact False.elim h
      | cont => exact False.elim h
      | ret u =>
        obtain ⟨v, H', os, bare, un, hok', r', q⟩ := h
        have q' : v = .bl true := q
        subst q'
        obtain rfl : u = Value.bool true := r'
        refine ⟨rfl, OldK.of_keep fun b o e => ?_, os, bare⟩
        cases q : H b with
        | none => exact un.keep b o e q (by intro z; exact absurd (show b ∈ ([] : List Addr) from z) (by simp)) (by simp)
        | some u =>
          obtain ⟨rfl, rfl⟩ := hA b u q
          obtain ⟨e2, _⟩ := hok' b _ (un.frzs b _ _ q)
          rw [e] at ha
          cases ha
          exact e2
  cases hk : K.lookup a with
  | some o =>
    have e := KX a o hk
    rw [ha] at e
    cases e
    exact core (fun _ => none) (fun b u z => nomatch z) ⟨ns, hl, .inr fun H' => .inr ⟨_, vs.toArray, _, hk, rfl, rfl, rfl, by rw [List.size_toArray, lenV]; exact hlz, by simpa using rv⟩⟩ (fun b u z => nomatch z) fun z => absurd rfl z
  | none =>
    refine core (fun b => if b = a then some (.frz { cls := .type "list", data := .seq vs.toArray } (.lst (ns.map V.int))) else none) (fun b u z => ?_) ⟨ns, hl, .inl ⟨_, if_pos rfl⟩⟩ (fun b u z => ?_) fun _ => hk
    · by_cases hb : b = a
      · have z' := (if_pos hb).symm.trans z
        exact ⟨hb, (Option.some.inj z').symm⟩
      · have z' := (if_neg hb).symm.trans z
        cases z'
    · by_cases hb : b = a
      · have z' := (if_pos hb).symm.trans z
        cases z'
        subst hb
        exact ⟨ha, by rw [List.length_map]; exact hlz, vs, _, rv, ha⟩
      · have z' := (if_neg hb).symm.trans z
        cases z'
/-- the goal that k_head leaves -/
theorem walk_L3 {l : PySem.W.OpenLaw} {k : Nat} {q : Program} {loose : List Str} {XP : (Str → Option Value) → Heap → Prop} {YP : World → Heap → Prop} {d : DefRec} {K : Params → PySem.W.Frag} {x : Str}
    (hn : l.most = some 63) (hdf : d.params.defaults = []) (hr : Room k callerA) (hY : ∀ (w : World) (h : Heap), YP w h → (K w.params).In h)
    (F : ∀ (w : World) (mg : Str → Option Value) (fa : Addr) (h : Heap), (K w.params).In h → h.Ns mainGlobals mg → mg d.name = some (.ref fa) →
      ∃ fd : FuncData, (∀ (s : Shared) (u : Value), BindsTo s fd ⟨[u], []⟩ [(x, u)]) ∧ ∀ base : Heap, (K w.params).In base → base.Ns mainGlobals mg → FnG l.prog w (K w.params) mg base k fa fd [x] (spV (ctx l.prog w (K w.params) mg) 1 0 spLaw)) :
    PySem.W.WalkO q loose XP YP l.row.toRowW d [] (fun f vs => PySem.call f vs) := by
  refine Att.attach_call hn hdf fun w s₀ s₁ mg mb fa o pm cd doc a vs ns G Y ho hd hcd hmg hobj hints hlen hg => ?_
  have KX := hY w _ Y
  obtain ⟨fd, hb, hF⟩ := F w mg fa _ KX G.T.g hmg
  exact law_end KX G.T.g G.T.b G.T.builtins G.T.nolimit hg hobj hints hlen hr hF hb
end L3

set_option maxHeartbeats 1000000
/-! L3vt: the end of a law whose defs make lambdas: the tables of code objects are tracked from the start. -/
namespace L3
open PySem PySem.Spec PyProof.Rows L2

theorem law_endT {P : Program} {w : World} {K : PySem.W.Frag} {mg mb : Str → Option Value} {k : Nat} {fa a : Addr} {cs : List (Addr × Addr)} {T : List (Addr × Str)} {fd : FuncData} {x : Str} {s₁ : Shared} {vs : List Value} {ns : List Int}
    (KX : K.In s₁.heap) (hns : s₁.heap.Ns mainGlobals mg) (hb : s₁.heap.Ns builtinsNs mb) (hbb : ∀ x : Str, x ≠ "__name__" → mb x = bootBuiltins x) (hlim : s₁.heap.NoLimit) (hg : s₁.gens = #[])
    (hT : ∀ p ∈ cs, s₁.heap.get? p.2 = some { cls := .none, data := .fields #[] }) (nT : ∀ p ∈ cs, K.lookup p.2 = none)
    (tabB : ∀ H : Hp, (∀ b, H b ≠ none → b = a ∨ ∃ p ∈ cs, b = p.2) → ∀ p ∈ cs, LamX.TabB (hidT s₁.heap H) mg p.1 p.2) (hC : ∀ p ∈ cs, PySem.W.CodeHd s₁.heap p.1 p.2) (hTT : ∀ p ∈ T, ∃ q ∈ cs, q.2 = p.1)
    (ha : s₁.heap.get? a = some { cls := .type "list", data := .seq vs.toArray }) (hi : IntsAre vs ns) (hl : ns.length ≤ 63) (hr : Room k callerA)
    (F : ∀ base : Heap, K.In base → base.Ns mainGlobals mg → (∀ p ∈ cs, LamX.TabB base mg p.1 p.2) → FnG P w K mg base k fa fd [x] (spV (ctx P w K mg T) 1 0 spLaw)) (hbind : ∀ (s : Shared) (u : Value), BindsTo s fd ⟨[u], []⟩ [(x, u)]) :
    codeAny (model P w) callerA (.call (.ref fa) ⟨[.ref a], []⟩) (fun r s' => r = .ok (.ret (.bool true)) ∧ OldK s₁.heap s'.heap ∧ s'.os = s₁.os ∧ AllBare s'.gens) s₁ := by
  have rv := vals_ints hi
  have lenV := hi.length
  have hlz : ns.length ≤ sizeLine := Nat.le_trans hl (by decide)
  have aT : ∀ p ∈ cs, a ≠ p.2 := fun p hp z => by
    have q := hT p hp
    rw [← z, ha] at q
    have z' : Data.seq vs.toArray _ = Data.fields #[] := congrArg Obj.data (Option.some.inj q)
    cases z'
  have core : ∀ H : Hp, (∀ b u, H b = some u → (b = a ∧ u = .frz { cls := .type "list", data := .seq vs.toArray } (.lst (ns.map V.int))) ∨ (u = .tbl #[] ∧ ∃ p ∈ cs, b = p.2)) → (∀ p ∈ cs, H p.2 = some (.tbl #[])) → ScriptAt K H a → HOk P w H s₁.heap → (H a ≠ none → K.lookup a = none) →
      codeAny (model P w) callerA (.call (.ref fa) ⟨[.ref a], []⟩) (fun r s' => r = .ok (.ret (.bool true)) ∧ OldK s₁.heap s'.heap ∧ s'.os = s₁.os ∧ AllBare s'.gens) s₁ := by
    intro H hA hTb hS hok hK
    have base_of : ∀ {b : Addr} {o : Obj}, s₁.heap.get? b = some o → H b = none → (hidT s₁.heap H).get? b = some o := fun e n => hidT_get e n
    have noA : ∀ {b : Addr} {o : Obj} {es : Array DictEntry} {ep : Nat}, s₁.heap.get? b = some o → o.data = .dict es ep → H b = none := fun {b o es ep} e d => by
      cases q : H b with
      | none => rfl
      | some u =>
        rcases hA b u q with ⟨rfl, _⟩ | ⟨_, p, hp, rfl⟩
        · rw [ha] at e; cases e
          have d' : Data.seq vs.toArray _ = Data.dict es ep := d
          cases d'
        · rw [hT p hp] at e; cases e
          have d' : Data.fields #[] = Data.dict es ep := d
          cases d'
    have nsK : ∀ {b : Addr} {m : Str → Option Value}, s₁.heap.Ns b m → (hidT s₁.heap H).Ns b m := fun {b m} ⟨o, es, ep, e, d, r⟩ => ⟨o, es, ep, base_of e (noA e d), d, r⟩
    have hKb : K.In (hidT s₁.heap H) := fun b o e => base_of (KX b o e) (by
      cases q : H b with
      | none => rfl
      | some u =>
        rcases hA b u q with ⟨rfl, _⟩ | ⟨_, p, hp, rfl⟩
        · rw [hK (by rw [q]; simp)] at e; cases e
        · rw [nT p hp] at e; cases e)
    have hM : Mod K mg (hidT s₁.heap H) := ⟨hKb, nsK hns, ⟨mb, nsK hb, hbb⟩, let ⟨mc, h1, h2⟩ := hlim; ⟨mc, nsK h1, h2⟩⟩
    have TB := tabB H fun b n => by
      cases q : H b with
      | none => exact absurd q n
      | some u => exact (hA b u q).imp (·.1) (·.2)
    have e0 : Env0 P w K mg (hidT s₁.heap H) callerA [] s₁ H := ⟨rfl, hM, fun b o e => of_hidT e, Nat.le_of_eq (hidT_size _ _), trivial, fun b hb => absurd (show b ∈ ([] : List Addr) from hb) (by simp), hok, .of_eq hg⟩
    have sp1 : spV (ctx P w K mg T) 1 0 spLaw [.ref a] H (fun v _ => v = .bl true) (fun _ _ _ => False) :=
      ⟨fun b => ∃ u, H b = some u, [.src 0 a], fun d => d = .bl true, fun _ => False, rfl, fun b h => h, fun p hp => by
        obtain ⟨q, hq, e⟩ := hTT p hp
        exact LamX.TabS.nil (by rw [← e]; exact hTb q hq), .cons (.src (k := 0) (show ScriptAt K H a from hS)) .nil, ⟨a, rfl, rfl⟩,
        fun _ v d F' H' _ hd e => by subst e; exact hd.bl_eq, fun k z => (nomatch z), fun cls dx F' H' y _ _ z => z⟩
    refine codeAny_mono ((F _ hKb (nsK hns) TB).run callerA [] s₁ H ⟨[.ref a], []⟩ [.ref a] [.ref a] _ _ hr rfl e0 (hbind s₁ (.ref a)) (.cons rfl .nil) sp1) fun r s' h => ?_
    cases r with
    | error e =>
      obtain ⟨_, _, _, _, _, _, _, _, _, _, _, _, z⟩ := (show L2.CX P w [] H s₁ (fun _ _ _ => False) e s' from h)
      exact z.elim
    | ok fl =>
      cases fl with
      | next => exact False.elim h
      | brk => exact False.elim h
      | cont => exact False.elim h
      | ret u =>
        obtain ⟨v, H', os, bare, un, hok', r', q⟩ := h
        have q' : v = .bl true := q
        subst q'
        obtain rfl : u = Value.bool true := r'
        have grown : ∀ p ∈ cs, ∃ more : Array Value, s'.heap.get? p.2 = some { cls := .none, data := .fields more } := fun p hp => by
          obtain ⟨more, z⟩ := un.tbls p.2 #[] (hTb p hp)
          exact ⟨_, hok' p.2 _ z⟩
        have key : ∀ b o, s₁.heap.get? b = some o → s'.heap.get? b = some o ∨ ∃ p ∈ cs, b = p.2 := fun b o e => by
          cases q : H b with
          | none => exact .inl (un.keep b o e q (by intro z; exact absurd (show b ∈ ([] : List Addr) from z) (by simp)) (by simp))
          | some u =>
            rcases hA b u q with ⟨rfl, rfl⟩ | ⟨_, z⟩
            · obtain ⟨e2, _⟩ := hok' b _ (un.frzs b _ _ q)
              rw [e] at ha
              cases ha
              exact .inl e2
            · exact .inr z
        refine ⟨rfl, ⟨fun b o e => ?_, fun b o e => ?_⟩, os, bare⟩
        · rcases key b o e with z | ⟨p, hp, rfl⟩
          · exact .inl z
          · obtain ⟨more, hm⟩ := grown p hp
            have it := ((hC p hp).tab (hT p hp)).isCodeTable
            rw [hT p hp] at e
            cases e
            exact .inr (.inl ⟨it, rfl, #[], more, rfl, by rw [Array.empty_append]; exact hm⟩)
        · rcases key b o e with z | ⟨p, hp, rfl⟩
          · exact ⟨o, z⟩
          · obtain ⟨more, hm⟩ := grown p hp
            exact ⟨_, hm⟩
  have mem : ∀ {b}, b ∈ cs.map (·.2) → ∃ p ∈ cs, b = p.2 := fun {b} h => by
    obtain ⟨p, hp, e⟩ := List.mem_map.mp h
    exact ⟨p, hp, e.symm⟩
  have memI : ∀ p ∈ cs, p.2 ∈ cs.map (·.2) := fun p hp => List.mem_map.mpr ⟨p, hp, rfl⟩
  cases hk : K.lookup a with
  | some o =>
    have e := KX a o hk
    rw [ha] at e
    cases e
    have na : ¬ a ∈ cs.map (·.2) := fun z => by
      obtain ⟨p, hp, e⟩ := mem z
      exact aT p hp e
    refine core (fun b => if b ∈ cs.map (·.2) then some (.tbl #[]) else none) (fun b u z => ?_) (fun p hp => if_pos (memI p hp)) ⟨ns, hl, .inr fun H' => .inr ⟨_, vs.toArray, _, hk, rfl, rfl, rfl, by rw [List.size_toArray, lenV]; exact hlz, by simpa using rv⟩⟩ (fun b u z => ?_) fun z => absurd (if_neg na) z
    · by_cases hb : b ∈ cs.map (·.2)
      · have z' := (if_pos hb).symm.trans z
        cases z'
        exact .inr ⟨rfl, mem hb⟩
      · have z' := (if_neg hb).symm.trans z
        cases z'
    · by_cases hb : b ∈ cs.map (·.2)
      · have z' := (if_pos hb).symm.trans z
        cases z'
        obtain ⟨p, hp, rfl⟩ := mem hb
        exact hT p hp
      · have z' := (if_neg hb).symm.trans z
        cases z'
  | none =>
    refine core (fun b => if b = a then some (.frz { cls := .type "list", data := .seq vs.toArray } (.lst (ns.map V.int))) else if b ∈ cs.map (·.2) then some (.tbl #[]) else none) (fun b u z => ?_) (fun p hp => (if_neg fun z => aT p hp z.symm).trans (if_pos (memI p hp))) ⟨ns, hl, .inl ⟨_, if_pos rfl⟩⟩ (fun b u z => ?_) fun _ => hk
    · by_cases hb : b = a
      · have z' := (if_pos hb).symm.trans z
        exact .inl ⟨hb, (Option.some.inj z').symm⟩
      · have z1 := (if_neg hb).symm.trans z
        by_cases hb2 : b ∈ cs.map (·.2)
        · have z' := (if_pos hb2).symm.trans z1
          cases z'
          exact .inr ⟨rfl, mem hb2⟩
        · have z' := (if_neg hb2).symm.trans z1
          cases z'
    · by_cases hb : b = a
      · have z' := (if_pos hb).symm.trans z
        cases z'
        subst hb
        exact ⟨ha, by rw [List.length_map]; exact hlz, vs, _, rv, ha⟩
      · have z1 := (if_neg hb).symm.trans z
        by_cases hb2 : b ∈ cs.map (·.2)
        · have z' := (if_pos hb2).symm.trans z1
          cases z'
          obtain ⟨p, hp, rfl⟩ := mem hb2
          exact hT p hp
        · have z' := (if_neg hb2).symm.trans z1
          cases z'
/-- the makers' code objects stand in the head's heap, and nothing hides them -/
theorem tabB_of {mg : Str → Option Value} {h : Heap} {a : Addr} {cs : List (Addr × Addr)} {vs : List Value} (hns : h.Ns mainGlobals mg)
    (hT : ∀ p ∈ cs, h.get? p.2 = some { cls := .none, data := .fields #[] }) (hC : ∀ p ∈ cs, PySem.W.CodeHd h p.1 p.2)
    (hbm : ∃ (bm : Addr) (ob : Obj), mg "__builtins__" = some (.ref bm) ∧ bm ≠ builtinsNs ∧ h.get? bm = some ob ∧ ob.cls = .type "module" ∧ ob.dict = some builtinsNs ∧ ob.data = .plain)
    (ha : h.get? a = some { cls := .type "list", data := .seq vs.toArray }) (H : Hp) (hH : ∀ b, H b ≠ none → b = a ∨ ∃ p ∈ cs, b = p.2) : ∀ p ∈ cs, LamX.TabB (hidT h H) mg p.1 p.2 := by
  have free : ∀ {b : Addr} {o : Obj}, h.get? b = some o → (∀ vs n, o.data ≠ .seq vs n) → o.data ≠ .fields #[] → (hidT h H).get? b = some o := fun {b o} e h1 h2 => hidT_get e (by
    cases q : H b with
    | none => rfl
    | some u =>
      rcases hH b (by rw [q]; simp) with rfl | ⟨p, hp, rfl⟩
      · rw [ha] at e; cases e; exact (h1 _ _ rfl).elim
      · rw [hT p hp] at e; cases e; exact (h2 rfl).elim)
  intro p hp
  have hTp := hT p hp
  have hg : ∀ {b : Addr} {o : Obj}, h.get? b = some o → (∀ es ep, o.data ≠ .dict es ep) → b ≠ mainGlobals := fun {b o} e n z => by
    obtain ⟨o', es, ep, e', d, _⟩ := hns
    rw [← z, e] at e'; cases e'
    exact n _ _ d
  refine ⟨?_, ?_, Ne.symm (hg hTp fun _ _ z => nomatch z)⟩
  · obtain ⟨o, us, file, tf, flags, tg, inF, text, tt, e1, r1, r2, r3, rest⟩ := hC p hp
    refine ⟨o, us, file, tf, flags, tg, inF, text, tt, free e1 (fun _ _ z => ?_) (fun z => ?_), r1, r2, r3, rest⟩
    · rw [r2] at z; cases z
    · rw [r2] at z; cases z; simp at r3
  · obtain ⟨bm, ob, b1, b2, b3, b4, b5, b6⟩ := hbm
    exact ⟨bm, ob, b1, b2, hg b3 (fun _ _ z => by rw [b6] at z; cases z), (fun q => by rw [q, hTp] at b3; cases b3; cases b6), free b3 (fun _ _ z => by rw [b6] at z; cases z) (fun z => by rw [b6] at z; cases z), b4, b5, b6⟩
/-- what is known of a law that makes lambdas, at the head's heap h -/
def LawAtT (l : PySem.W.OpenLaw) (w : World) (K : PySem.W.Frag) (k : Nat) (x : Str) (mg : Str → Option Value) (fa : Addr) (h : Heap) : Prop :=
  ∃ (fd : FuncData) (cs : List (Addr × Addr)) (T : List (Addr × Str)), (∀ p ∈ cs, h.get? p.2 = some { cls := .none, data := .fields #[] }) ∧ (∀ p ∈ cs, K.lookup p.2 = none) ∧ (∀ p ∈ cs, PySem.W.CodeHd h p.1 p.2) ∧ (∀ p ∈ T, ∃ q ∈ cs, q.2 = p.1) ∧
    (∀ (s : Shared) (u : Value), BindsTo s fd ⟨[u], []⟩ [(x, u)]) ∧ ∀ base : Heap, K.In base → base.Ns mainGlobals mg → (∀ p ∈ cs, LamX.TabB base mg p.1 p.2) → FnG l.prog w K mg base k fa fd [x] (spV (ctx l.prog w K mg T) 1 0 spLaw)
theorem walk_L3T {l : PySem.W.OpenLaw} {k : Nat} {q : Program} {loose : List Str} {XP : (Str → Option Value) → Heap → Prop} {YP : World → Heap → Prop} {d : DefRec} {K : Params → PySem.W.Frag} {x : Str}
    (hn : l.most = some 63) (hdf : d.params.defaults = []) (hr : Room k callerA) (hY : ∀ (w : World) (h : Heap), YP w h → (K w.params).In h)
    (F : ∀ (w : World) (mg : Str → Option Value) (fa : Addr) (h : Heap), YP w h → (K w.params).In h → h.Ns mainGlobals mg → mg d.name = some (.ref fa) → LawAtT l w (K w.params) k x mg fa h) :
    PySem.W.WalkO q loose XP YP l.row.toRowW d [] (fun f vs => PySem.call f vs) := by
  refine Att.attach_call hn hdf fun w s₀ s₁ mg mb fa o pm cd doc a vs ns G Y ho hd hcd hmg hobj hints hlen hg => ?_
  have KX := hY w _ Y
  obtain ⟨fd, cs, T, hT, nT, hC, hTT, hb, hF⟩ := F w mg fa _ Y KX G.T.g hmg
  exact law_endT KX G.T.g G.T.b G.T.builtins G.T.nolimit hg hT nT (tabB_of G.T.g hT hC G.T.bmain hobj) hC hTT hobj hints hlen hr hF hb
end L3

/-! L3w: rules to reckon with words. -/
namespace L3
open PySem PySem.Spec PyProof.Rows L2

theorem bneF {b : Bool} : (b != false) = b := by cases b <;> rfl
theorem bneT {b : Bool} : (b != true) = !b := by cases b <;> rfl
theorem wTup_cons {i : Nat} {is : List Nat} {d : T} {ds : List T} {ρ : Rho} {R : Rho → Prop} : wTup (i :: is) (d :: ds) ρ R = wTup is ds (ρ.set i (.sh d)) R :=
  propext ⟨fun ⟨_, _, e, h⟩ => by cases e; exact h, fun h => ⟨d, ds, rfl, h⟩⟩
theorem wTup_nil {ρ : Rho} {R : Rho → Prop} : wTup [] [] ρ R = R ρ := propext ⟨fun h => h.2, fun h => ⟨rfl, h⟩⟩
theorem okE_int {i j : Int} : okE (.int i) (.int j) = true := rfl
theorem okE_str {x y : Str} : okE (.str x) (.str y) = true := rfl
theorem okE_non {d : T} (h : okB d = true) : okE .non d = true := by cases d <;> exact h
theorem okB_int {i : Int} : okB (.int i) = true := rfl
theorem okB_non : okB .non = true := rfl
theorem okB_bl {b : Bool} : okB (.bl b) = true := rfl
theorem okB_lst {xs : List T} (h : ∀ x ∈ xs, okD 59 x = true) : okB (.lst xs) = true := List.all_eq_true.mpr h
theorem okB_tup {xs : List T} (h : ∀ x ∈ xs, okD 59 x = true) : okB (.tup xs) = true := List.all_eq_true.mpr h
theorem eqT_int {i j : Int} : eqT (.int i) (.int j) = decide (i = j) := by
  unfold eqT toPy
  first | rfl | simp [PyData.eqv]
theorem eqT_non : eqT .non .non = true := by
  unfold eqT toPy
  first | rfl | simp [PyData.eqv]
theorem eqT_tup {xs ys : List T} : eqT (.tup xs) (.tup ys) = PyData.eqvAll (toPys xs) (toPys ys) := by
  unfold eqT
  rw [toPy, toPy]
  first | rfl | simp [PyData.eqv]
/-- a comprehension whose clause and value are told by p and f -/
theorem wLc_map {g : WG} {wt : WT} {we : WE} {ρ0 : Rho} {Q : List T → Prop} {p : T → Bool} {f : T → T} : ∀ (ds acc : List T), acc.length + ds.length < sizeLine →
    (∀ d ∈ ds, ∀ (K : T → Prop) (K' : Prop) (N : Ex → Prop), (p d = true → K (f d)) → (p d = false → K') → g d ρ0 fun ρ1 => wt ρ1 (fun b => if b = true then we ρ1 K NoEx else K') N) →
    Q (acc ++ (ds.filter p).map f) → wLc g wt we ρ0 Q ds acc
  | [], acc, _, _, q => by simpa [wLc] using q
  | d :: ds, acc, hl, h, q => by
    rw [List.length_cons] at hl
    unfold wLc
    refine h d List.mem_cons_self _ _ _ (fun e => ⟨by omega, ?_⟩) fun e => ?_
    · refine wLc_map ds (acc ++ [f d]) (by rw [List.length_append]; simp; omega) (fun d' hd' => h d' (List.mem_cons_of_mem _ hd')) ?_
      rw [List.filter_cons_of_pos e, List.map_cons] at q
      simpa using q
    · refine wLc_map ds acc (by omega) (fun d' hd' => h d' (List.mem_cons_of_mem _ hd')) ?_
      rw [List.filter_cons_of_neg (by simp [e])] at q
      exact q
theorem wFor_inv {g : WG} {wb : WS} {D : Dv} (I : Nat → Rho → Prop) : ∀ {ds : List T} {ρ : Rho}, I 0 ρ →
    (∀ i d ρ (K : Rho → Prop), ds[i]? = some d → I i ρ → (∀ ρ', I (i + 1) ρ' → K ρ') → g d ρ fun ρ1 => wb ρ1 { D with nx := K, ct := K, bk := D.nx }) → (∀ ρ, I ds.length ρ → D.nx ρ) → wFor g wb D ds ρ := by
  intro ds
  induction ds generalizing I with
  | nil => intro ρ h0 _ hf; exact hf ρ h0
  | cons d ds ih =>
    intro ρ h0 hs hf
    unfold wFor
    exact hs 0 d ρ _ rfl h0 fun ρ' h1 => ih (fun i => I (i + 1)) h1 (fun i d' ρ2 K e => hs (i + 1) d' ρ2 K (by simpa using e)) fun ρ2 h2 => hf ρ2 h2
theorem frz_nil {ρ : Rho} : frz ρ [] = ρ := rfl
theorem wWhile_inv {wt : WT} {wb : WS} {D : Dv} (I : Nat → Rho → Prop) {m : Nat} {ρ : Rho} (h0 : I m ρ)
    (hs : ∀ m ρ (K : Rho → Prop), I m ρ → (∀ m' ρ', m' < m → I m' ρ' → K ρ') → wt ρ (fun k => if k = true then wb ρ { D with nx := K, ct := K, bk := D.nx } else D.nx ρ) (D.ex ρ)) : ∃ n, wWhile [] wt wb D n ρ := by
  have key : ∀ n m ρ, m < n → I m ρ → wWhile [] wt wb D n ρ := by
    intro n
    induction n with
    | zero => intro m ρ h; omega
    | succ n ih =>
      intro m ρ hm hi
      unfold wWhile
      exact hs m ρ _ hi fun m' ρ' l hi' => ih m' ρ' (by omega) hi'
  exact ⟨m + 1, key _ m ρ (Nat.lt_succ_self m) h0⟩
/-- a comprehension over the trees of xs -/
theorem wLc_over {α : Type} {f0 : α → T} {p : α → Bool} {F : α → T} {g : WG} {wt : WT} {we : WE} {ρ0 : Rho} {Q : List T → Prop} : ∀ (xs : List α) (acc : List T), acc.length + xs.length < sizeLine →
    (∀ x ∈ xs, ∀ (K : T → Prop) (K' : Prop) (N : Ex → Prop), (p x = true → K (F x)) → (p x = false → K') → g (f0 x) ρ0 fun ρ1 => wt ρ1 (fun b => if b = true then we ρ1 K NoEx else K') N) →
    Q (acc ++ (xs.filter p).map F) → wLc g wt we ρ0 Q (xs.map f0) acc
  | [], acc, _, _, q => by simpa [wLc] using q
  | x :: xs, acc, hl, h, q => by
    rw [List.length_cons] at hl
    rw [List.map_cons]
    unfold wLc
    refine h x List.mem_cons_self _ _ _ (fun e => ⟨by omega, ?_⟩) fun e => ?_
    · refine wLc_over xs (acc ++ [F x]) (by rw [List.length_append]; simp; omega) (fun d' hd' => h d' (List.mem_cons_of_mem _ hd')) ?_
      rw [List.filter_cons_of_pos e, List.map_cons] at q
      simpa using q
    · refine wLc_over xs acc (by omega) (fun d' hd' => h d' (List.mem_cons_of_mem _ hd')) ?_
      rw [List.filter_cons_of_neg (by simp [e])] at q
      exact q
/-- .. without a clause -/
theorem wLc_each {α : Type} {f0 : α → T} {F : α → T} {g : WG} {wt : WT} {we : WE} {ρ0 : Rho} {Q : List T → Prop} (xs : List α) (hl : xs.length < sizeLine)
    (h : ∀ x ∈ xs, ∀ (K : T → Prop) (K' : Prop) (N : Ex → Prop), K (F x) → g (f0 x) ρ0 fun ρ1 => wt ρ1 (fun b => if b = true then we ρ1 K NoEx else K') N) (q : Q (xs.map F)) : wLc g wt we ρ0 Q (xs.map f0) [] :=
  wLc_over (p := fun _ => true) (F := F) xs [] (by simpa using hl) (fun x hx K K' N k _ => h x hx K K' N (k rfl)) (by rw [List.filter_eq_self.mpr fun _ _ => rfl]; exact q)
theorem rangeT_at {lo : Int} {n i : Nat} {d : T} (h : (rangeT lo n)[i]? = some d) : i < n ∧ d = .int (lo + (i : Int)) := by
  unfold rangeT at h
  rw [List.getElem?_map] at h
  obtain ⟨j, hj, rfl⟩ := Option.map_eq_some_iff.mp h
  have hl := (List.getElem?_eq_some_iff.mp hj).1
  rw [List.length_range] at hl
  rw [List.getElem?_range hl] at hj
  cases hj
  exact ⟨hl, rfl⟩
theorem rangeT_len {lo : Int} {n : Nat} : (rangeT lo n).length = n := by simp [rangeT]
end L3

/-! Rt: points as rationals. -/
namespace L3
open PySem PySem.Spec PyProof.Rows L2

/-- the pair of a rational -/
def rT (r : Rat) : T := .tup [.int r.num, .int r.den]
theorem rT_mk {p q : Int} (h : 0 < q) : rT (mkRat p q.toNat) = .tup [.int (p / ((p.natAbs.gcd q.natAbs : Nat) : Int)), .int (q / ((p.natAbs.gcd q.natAbs : Nat) : Int))] := by
  have hq : q.toNat ≠ 0 := by omega
  have e : q.natAbs = q.toNat := by omega
  have e2 : (q.toNat : Int) = q := by omega
  unfold rT
  rw [Rat.num_mkRat, Rat.den_mkRat, if_neg hq, if_neg hq, Nat.gcd_comm, e]
  congr 3
  rw [Int.natCast_ediv, e2, Nat.gcd_comm]
theorem rT_shift {r : Rat} {k : Int} : rT (r + (k : Rat)) = .tup [.int (r.num + k * r.den), .int r.den] := by
  have h : r + (k : Rat) = ⟨r.num + k * r.den, r.den, r.den_nz, by
      have := r.reduced
      unfold Nat.Coprime at *
      have e : ∀ x : Int, x.natAbs.gcd r.den = Int.gcd x (r.den : Int) := fun x => rfl
      rw [← this, e, e]
      simp⟩ := by
    rw [Rat.mk_eq_mkRat, Rat.add_def']
    simp
  rw [h]
  rfl
theorem rT_int {i : Int} : rT (i : Rat) = .tup [.int i, .int 1] := rfl
theorem rT_inj {r s : Rat} (h : rT r = rT s) : r = s := by
  unfold rT at h
  simp only [T.tup.injEq, List.cons.injEq, T.int.injEq, and_true] at h
  exact Rat.ext h.1 (by omega)
theorem eqT_rT {r s : Rat} : eqT (rT r) (rT s) = decide (r = s) := by
  unfold eqT rT
  simp only [toPy, toPys, PyData.eqv, PyData.eqvAll, Bool.and_true]
  rw [Bool.eq_iff_iff]
  simp only [Bool.and_eq_true, beq_iff_eq, decide_eq_true_eq]
  refine ⟨fun h => Rat.ext h.1 (by omega), fun h => by rw [h]; exact ⟨rfl, rfl⟩⟩
theorem okD_rT {n : Nat} {r : Rat} : okD (n + 1) (rT r) = true := by simp [okD, rT]
theorem okB_rT {r : Rat} : okB (rT r) = true := okD_rT
theorem okB_rTs {rs : List Rat} : okB (.lst (rs.map rT)) = true := okB_lst fun x hx => by
  obtain ⟨r, _, rfl⟩ := List.mem_map.mp hx
  exact okD_rT
theorem okB_rTt {rs : List Rat} : okB (.tup (rs.map rT)) = true := okB_tup fun x hx => by
  obtain ⟨r, _, rfl⟩ := List.mem_map.mp hx
  exact okD_rT
theorem okE_rT {r s : Rat} : okE (rT r) (rT s) = true := okE_of okB_rT okB_rT
theorem okE_rTs {r s : List Rat} : okE (.lst (r.map rT)) (.lst (s.map rT)) = true := okE_of okB_rTs okB_rTs
theorem okE_rTt {r s : List Rat} : okE (.tup (r.map rT)) (.tup (s.map rT)) = true := okE_of okB_rTt okB_rTt
theorem okE_nil {r : List Rat} : okE (.tup (r.map rT)) (.tup []) = true := okE_of okB_rTt rfl
theorem eqvAll_map {α : Type} [DecidableEq α] {f : α → T} (h : ∀ a b, eqT (f a) (f b) = decide (a = b)) : ∀ xs ys : List α, PyData.eqvAll (toPys (xs.map f)) (toPys (ys.map f)) = decide (xs = ys)
  | [], [] => rfl
  | x :: xs, [] => by simp [toPys, PyData.eqvAll]
  | [], y :: ys => by simp [toPys, PyData.eqvAll]
  | x :: xs, y :: ys => by
    simp only [List.map_cons, toPys, PyData.eqvAll]
    rw [eqvAll_map h xs ys, show PyData.eqv (toPy (f x)) (toPy (f y)) = decide (x = y) from h x y]
    rw [Bool.eq_iff_iff]
    simp
theorem eqT_rTs {rs ss : List Rat} : eqT (.lst (rs.map rT)) (.lst (ss.map rT)) = decide (rs = ss) := by
  unfold eqT
  simp only [toPy, PyData.eqv]
  exact eqvAll_map (fun _ _ => eqT_rT) rs ss
theorem inT_rTs {r : Rat} {rs : List Rat} : inT (rT r) (rs.map rT) = decide (r ∈ rs) := by
  unfold inT
  rw [List.any_map, Bool.eq_iff_iff, List.any_eq_true]
  simp only [Function.comp, eqT_rT, decide_eq_true_eq]
  exact ⟨fun ⟨x, h, e⟩ => e ▸ h, fun h => ⟨r, h, rfl⟩⟩
/-- bounds -/
def bd (k : Nat) (r : Rat) : Prop := r.num.natAbs < 2 ^ k ∧ r.den < 2 ^ k
theorem bd.mono {j k : Nat} {r : Rat} (h : bd j r) (l : j ≤ k) : bd k r :=
  ⟨Nat.lt_of_lt_of_le h.1 (Nat.pow_le_pow_right (by decide) l), Nat.lt_of_lt_of_le h.2 (Nat.pow_le_pow_right (by decide) l)⟩
theorem bd_mk {k : Nat} {p : Int} {q : Nat} (hp : p.natAbs < 2 ^ k) (hq : q < 2 ^ k) (h : q ≠ 0) : bd k (mkRat p q) := by
  refine ⟨?_, ?_⟩
  · rw [Rat.num_mkRat, if_neg h]
    refine Nat.lt_of_le_of_lt ?_ hp
    rw [Int.natAbs_ediv_of_dvd (Int.ofNat_dvd_left.mpr (Nat.gcd_dvd_right _ _))]
    exact Nat.div_le_self _ _
  · rw [Rat.den_mkRat, if_neg h]
    exact Nat.lt_of_le_of_lt (Nat.div_le_self _ _) hq
theorem bd_add {k : Nat} {r s : Rat} (hr : bd k r) (hs : bd k s) : bd (k + k + 1) (r + s) := by
  rw [Rat.add_def']
  have h1 := Nat.mul_lt_mul'' hr.1 hs.2
  have h2 := Nat.mul_lt_mul'' hs.1 hr.2
  have h3 := Nat.mul_lt_mul'' hr.2 hs.2
  rw [← Nat.pow_add] at h1 h2 h3
  have e : 2 ^ (k + k + 1) = 2 ^ (k + k) + 2 ^ (k + k) := by rw [Nat.pow_succ]; omega
  refine bd_mk ?_ (by omega) (Nat.mul_ne_zero r.den_nz s.den_nz)
  have a1 := Int.natAbs_mul r.num s.den
  have a2 := Int.natAbs_mul s.num r.den
  simp only [Int.natAbs_natCast] at a1 a2
  have := Int.natAbs_add_le (r.num * s.den) (s.num * r.den)
  omega
theorem bd_neg {k : Nat} {r : Rat} (hr : bd k r) : bd k (-r) := ⟨by rw [Rat.neg_num, Int.natAbs_neg]; exact hr.1, hr.2⟩
theorem bd_sub {k : Nat} {r s : Rat} (hr : bd k r) (hs : bd k s) : bd (k + k + 1) (r - s) := by
  rw [Rat.sub_eq_add_neg]; exact bd_add hr (bd_neg hs)
theorem bd_mul {k : Nat} {r s : Rat} (hr : bd k r) (hs : bd k s) : bd (k + k) (r * s) := by
  rw [Rat.mul_def']
  have h1 := Nat.mul_lt_mul'' hr.1 hs.1
  have h3 := Nat.mul_lt_mul'' hr.2 hs.2
  rw [← Nat.pow_add] at h1 h3
  exact bd_mk (by rw [Int.natAbs_mul]; exact h1) h3 (Nat.mul_ne_zero r.den_nz s.den_nz)
theorem bd_int {k : Nat} {i : Int} (h : i.natAbs < 2 ^ k) (hk : 0 < k) : bd k (i : Rat) := ⟨h, by
  show 1 < 2 ^ k
  exact Nat.one_lt_two_pow (by omega)⟩
theorem bd.cmul {k : Nat} {i j : Int} (hi : i.natAbs < 2 ^ k) (hj : j.natAbs < 2 ^ k) (h0 : 0 < k) (hk : k ≤ 500000) : CMulW i j := wide_mul hi hj h0 h0 (by omega)
/-- the text of a list of points is there -/
theorem rp_rT {n k : Nat} {r : Rat} (h : bd k r) (h0 : 0 < k) (hk : k ≤ 1920) : rpD (n + 1) (rT r) = true := by
  have l1 := PySem.Flt.log2_lt_of h0 h.1
  have l2 := PySem.Flt.log2_lt_of h0 h.2
  simp only [rT, rpD, List.all_cons, List.all_nil, Bool.and_true, Bool.and_eq_true]
  constructor
  · cases n <;> exact decide_eq_true (by omega)
  · cases n <;> exact decide_eq_true (by rw [Int.natAbs_natCast]; omega)
theorem sz_rTs : ∀ rs : List Rat, szTs (rs.map rT) = 3 * rs.length
  | [] => rfl
  | r :: rs => by
    rw [List.map_cons, szTs, sz_rTs rs, List.length_cons]
    show (1 + (1 + (1 + 0))) + _ = _
    omega
theorem rpOk_rTs {k : Nat} {rs : List Rat} (h : ∀ r ∈ rs, bd k r) (h0 : 0 < k) (hk : k ≤ 1920) (hl : rs.length ≤ 2000) : rpOk (.lst (rs.map rT)) := by
  refine ⟨List.all_eq_true.mpr fun x hx => ?_, ?_⟩
  · obtain ⟨r, hr, rfl⟩ := List.mem_map.mp hx
    exact rp_rT (h r hr) h0 hk
  · show 1 + szTs (rs.map rT) ≤ 8000
    rw [sz_rTs]; omega
theorem at0 {x y : T} : atI [x, y] 0 = some x := rfl
theorem at1 {x y : T} : atI [x, y] 1 = some y := rfl
theorem bd_pos {r : Rat} : (0 : Int) < (r.den : Int) := by
  have := r.den_nz
  omega
theorem wCall_of {G : Gt} {f : Str} {n fr : Nat} {sp : VSp} (h : G f = some ⟨n, fr, sp⟩) (h2 : n < 100 := by decide) {ds : List T} {Q : T → Prop} {Ev : Ex → Prop} : wCall G f ds Q Ev = (ds.length = n ∧ sp ds Q Ev) := by
  unfold wCall
  rw [h]
  show wArgs _ ds Q Ev = _
  unfold wArgs
  rw [if_pos h2]
theorem wCallF_of {G : Gt} {f : Str} {n fr : Nat} {sp : VSp} (h : G f = some ⟨n, fr, sp⟩) (h2 : n < 100 := by decide) {ds : List T} {Q : T → Prop} {Ev : Ex → Prop} : wCallF G f ds Q Ev = (fr = 1 ∧ ds.length = n ∧ sp ds Q Ev) := by
  unfold wCallF
  rw [h]
  show (fr = 1 ∧ wArgs _ ds Q Ev) = _
  unfold wArgs
  rw [if_pos h2]
/-- a def with a star alone -/
theorem wCallS_of {G : Gt} {f : Str} {fr : Nat} {sp : VSp} (h : G f = some ⟨100, fr, sp⟩) {ds : List T} {Q : T → Prop} {Ev : Ex → Prop} : wCall G f ds Q Ev = (ds.length ≤ sizeLine ∧ sp [.tup ds] Q Ev) := by
  unfold wCall
  rw [h]
  show wArgs _ ds Q Ev = _
  unfold wArgs
  rw [if_neg (by show ¬ (100 : Nat) < 100; decide)]
  simp
theorem natAbs_mul_lt {a b : Int} {j k : Nat} (ha : a.natAbs < 2 ^ j) (hb : b.natAbs < 2 ^ k) : (a * b).natAbs < 2 ^ (j + k) := wide_lt ha hb
theorem natAbs_add_lt {a b : Int} {k : Nat} (ha : a.natAbs < 2 ^ k) (hb : b.natAbs < 2 ^ k) : (a + b).natAbs < 2 ^ (k + 1) := by
  have := Int.natAbs_add_le a b
  rw [Nat.pow_succ]
  omega
theorem natAbs_sub_lt {a b : Int} {k : Nat} (ha : a.natAbs < 2 ^ k) (hb : b.natAbs < 2 ^ k) : (a - b).natAbs < 2 ^ (k + 1) := by
  rw [Int.sub_eq_add_neg]
  exact natAbs_add_lt ha (by rw [Int.natAbs_neg]; exact hb)
theorem two_le {j k n : Nat} (h : n < 2 ^ j) (l : j ≤ k) : n < 2 ^ k := Nat.lt_of_lt_of_le h (Nat.pow_le_pow_right (by decide) l)
theorem bd.d {k : Nat} {r : Rat} (h : bd k r) : (r.den : Int).natAbs < 2 ^ k := by rw [Int.natAbs_natCast]; exact h.2
theorem rat_num_den (r : Rat) : r = (r.num : Rat) / (r.den : Rat) := by
  conv => lhs; rw [← Rat.mkRat_self r, Rat.mkRat_eq_div]
theorem den_ne (r : Rat) : (r.den : Rat) ≠ 0 := by
  have := r.den_nz
  simpa using this
theorem mk_int {p q : Int} (h : 0 < q) : mkRat p q.toNat = (p : Rat) / (q : Rat) := by
  rw [Rat.mkRat_eq_div]
  congr 1
  have : ((q.toNat : Int) : Rat) = (q : Rat) := by rw [show (q.toNat : Int) = q by omega]
  rw [← this]
  rfl
end L3

/-! L3x: defs that call themselves: their words by how deep they may still go. -/
namespace L3
open PySem PySem.Spec PyProof.Rows L2

/-- some names' words told anew -/
def upG (l : List (Str × FnInfo)) (G : Gt) : Gt := fun y => match List.lookup y l with
  | some i => some i
  | none => G y
section
variable {P : Program} {w : World} {base : Heap} {C : Ctx} {G G' : Gt} {k : Nat} {x : Str} {st : Stmt} {a : Addr} {fd : FuncData} {N ps : List Str} {c : Sc} {b : Ss} {i : FnInfo}
theorem Has.to (h : Has P w base C G k x) (e : G' x = G x) : Has P w base C G' k x :=
  let ⟨i, a, h1, h2, h3, h5, h6⟩ := h
  ⟨i, a, e.trans h1, h2, h3, h5, h6⟩
/-- a word that promises nothing -/
theorem has_none (hi : G x = some i) (hm : C.mg x = some (.ref a)) (hk : PySem.W.keepIn C.K (.ref a) = true) (hd : (x == ("__debug__" : Str)) = false) (h0 : ∀ ds Q E, ¬ i.sp ds Q E) : Has P w base C G k x :=
  ⟨i, a, hi, hm, hk, ⟨fun A outer s H us vs Q E hr hgd he hv ⟨F, ds, Qv, Ev, dm, tb, hds, wa, r⟩ => by
    unfold wArgs at wa
    split at wa
    · exact (h0 _ _ _ wa.2).elim
    · exact (h0 _ _ _ wa.2.2).elim⟩, hd⟩
/-- the body is walked with other words than the ones that then hold -/
theorem has_def2 (hs : SrcStays C)
    (T0 : Text G' st N ps c b) (hi : G x = some i) (hn : ps.length = i.n) (h100 : i.n < 100) (F : Fun C.K x x st a fd) (hb : L2.Binds C.K fd ps []) (hm : C.mg x = some (.ref a)) (hd : (x == ("__debug__" : Str)) = false)
    (bn : ∀ y ∈ c.bn, C.mg y = none) (fns : ∀ f ∈ c.fns, Has P w base C G' k f) (frs : ∀ f ∈ c.frs, ∃ i, G' f = some i ∧ i.fr = 1) (hg : c.gcd = true → C.mg "gcd" = some (.builtin "math.gcd"))
    (lf : c.lam = true → ∃ kl, kl + 3 ≤ k ∧ ∀ f ∈ c.lfns, Has P w base C G' kl f) (lm : c.lam = true → LamAt C base fd x)
    (h : ∀ ds Q E, ds.length = i.n → i.sp ds Q E → wSs G' b (startT N ds) (endsOf i.fr Q E)) : Has P w base C G (k + 1) x :=
  ⟨i, a, hi, hm, F.kp, ((fnG_def hs T0 hn F bn fns frs hg lf lm h).pos hb).info h100, hd⟩
end
/-- the table of a maker -/
theorem lamAt_mk {K : PySem.W.Frag} {P : Program} {w : World} {mg : Str → Option Value} {T : List (Addr × Str)} {base : Heap} {fd : FuncData} {x : Str} {cc Q : Addr} (h1 : fd.code = .ref cc) (h2 : LamX.TabB base mg cc Q)
    (h3 : (Q, x ++ ".<locals>." ++ "<lambda>") ∈ T) (h4 : ∀ p ∈ T, p.1 = Q → p.2 = x ++ ".<locals>." ++ "<lambda>") : LamAt (ctx P w K mg T) base fd x := ⟨cc, Q, h1, h2, h3, h4⟩
/-- f(*rows) binds its arguments as one tuple -/
theorem star0 {x q : Str} {st : Stmt} {kV dc pm cd ct : Value} {an} {pv : Str} {a : Arg} (h1 : (defArgs st).posonlyargs = []) (h2 : (defArgs st).args = []) (h3 : (defArgs st).kwonlyargs = []) (h4 : (defArgs st).vararg = some a) (h5 : (defArgs st).kwarg = none) (h6 : a.arg = pv) (rest : List Value) :
   bindArgs (PySem.W.fnOf x q (defArgs st) (defBody st) (defScope st) .none kV dc pm an cd ct) ⟨[] ++ rest, []⟩ = (newTuple rest >>= fun t => pure (([] : List Str).zip [] ++ [(pv, t)])) := by
  unfold bindArgs
  simp [PySem.W.fnOf, h1, h2, h3, h4, h5, h6, seqItems?]
  first | rfl | (simp [notAStandIn]; done) | (unfold notAStandIn; simp; done)
theorem uniqT {T : List (Addr × Str)} {Q : Addr} {x : Str} (h : ∀ p ∈ T, p = (Q, x) ∨ p.1 ≠ Q) : ∀ p ∈ T, p.1 = Q → p.2 = x := fun p hp e => (h p hp).elim (fun z => by rw [z]) fun z => absurd e z
theorem neA {a b : Addr} (h : (a == b) = false) : a ≠ b := fun e => by rw [e] at h; simp at h
theorem neB {a b : Addr} (h : (a == b) = false) : b ≠ a := fun e => by rw [e] at h; simp at h
end L3

/-! LV: values, as the laws draw them. -/
namespace LawP
open PySem PySem.Spec PyProof.Rows L2 L3

inductive Val where
  | word (s : Str)
  | pt (r : Rat)
  | row (vs : List Val)
  | set (ps : List Rat) (ms : List Val)
theorem Val.ind {P : Val → Prop} (hw : ∀ s, P (.word s)) (hp : ∀ r, P (.pt r)) (hr : ∀ vs, (∀ v ∈ vs, P v) → P (.row vs)) (hs : ∀ ps ms, (∀ v ∈ ms, P v) → P (.set ps ms)) (v : Val) : P v :=
  Val.rec (motive_1 := P) (motive_2 := fun vs => ∀ v ∈ vs, P v) hw hp hr hs (fun v hv => nomatch hv) (fun v vs h1 h2 u hu => by
    rcases List.mem_cons.mp hu with rfl | hu
    · exact h1
    · exact h2 u hu) v
mutual
def vT : Val → T
  | .word s => .str s
  | .pt r => rT r
  | .row vs => .tup (.str "row" :: vTs vs)
  | .set ps ms => .tup [.str "set", .tup (ps.map rT), .tup (vTs ms)]
def vTs : List Val → List T
  | [] => []
  | v :: vs => vT v :: vTs vs
end
theorem vTs_map : ∀ vs : List Val, vTs vs = vs.map vT
  | [] => rfl
  | v :: vs => by rw [vTs, List.map_cons, vTs_map vs]
theorem vT_row {vs : List Val} : vT (.row vs) = .tup (.str "row" :: vs.map vT) := by rw [vT, vTs_map]
theorem vT_set {ps : List Rat} {ms : List Val} : vT (.set ps ms) = .tup [.str "set", .tup (ps.map rT), .tup (ms.map vT)] := by rw [vT, vTs_map]
/-- a member among the ascending ones -/
def ins (xs : List Rat) (x : Rat) : List Rat := if x ∈ xs then xs else xs.filter (fun r => decide (r < x)) ++ [x] ++ xs.drop (xs.filter fun r => decide (r < x)).length
def asc (l : List Rat) : List Rat := l.foldl ins []
abbrev Asc (xs : List Rat) : Prop := xs.Pairwise (· < ·)
theorem drop_filt {x : Rat} : ∀ {xs : List Rat}, Asc xs → xs.drop (xs.filter fun r => decide (r < x)).length = xs.filter fun r => !decide (r < x)
  | [], _ => rfl
  | a :: xs, h => by
    obtain ⟨h1, h2⟩ := List.pairwise_cons.mp h
    by_cases ha : a < x
    · rw [List.filter_cons_of_pos (by simpa using ha), List.filter_cons_of_neg (by simpa using ha), List.length_cons, List.drop_succ_cons]
      exact drop_filt h2
    · have hn : ∀ r ∈ xs, ¬ r < x := fun r hr hx => ha (Std.lt_trans (h1 r hr) hx)
      rw [List.filter_cons_of_neg (by simpa using ha), List.filter_cons_of_pos (by simpa using ha), List.filter_eq_nil_iff.mpr (by simpa using hn), List.filter_eq_self.mpr (by simpa using hn)]
      rfl
theorem ins_asc {xs : List Rat} {x : Rat} (h : Asc xs) : Asc (ins xs x) := by
  unfold ins
  split
  · exact h
  · rename_i hx
    rw [drop_filt h, List.append_assoc]
    refine List.pairwise_append.mpr ⟨h.filter _, List.pairwise_cons.mpr ⟨fun r hr => ?_, h.filter _⟩, fun a ha b hb => ?_⟩
    · have hr : r ∈ xs.filter fun r => !decide (r < x) := hr
      rw [List.mem_filter] at hr
      have h1 : ¬ r < x := by simpa using hr.2
      have h3 : x ≠ r := fun z => hx (by rw [z]; exact hr.1)
      grind
    · rw [List.mem_filter] at ha
      have h1 : a < x := by simpa using ha.2
      rcases List.mem_append.mp hb with hb | hb
      · have : b = x := by simpa using hb
        rw [this]; exact h1
      · rw [List.mem_filter] at hb
        have h2 : ¬ b < x := by simpa using hb.2
        exact Std.lt_of_lt_of_le h1 (Rat.not_lt.mp h2)
theorem ins_mem {xs : List Rat} {x y : Rat} (h : Asc xs) : y ∈ ins xs x ↔ y ∈ xs ∨ y = x := by
  unfold ins
  split
  · rename_i hx
    exact ⟨.inl, fun z => z.elim id fun e => e ▸ hx⟩
  · rw [drop_filt h]
    simp only [List.mem_append, List.mem_filter, List.mem_singleton]
    constructor
    · rintro ((z | z) | z)
      · exact .inl z.1
      · exact .inr z
      · exact .inl z.1
    · rintro (z | z)
      · by_cases q : y < x
        · exact .inl (.inl ⟨z, by simpa using q⟩)
        · exact .inr ⟨z, by simpa using q⟩
      · exact .inl (.inr z)
theorem ins_len {xs : List Rat} {x : Rat} (h : x ∉ xs) : (ins xs x).length = xs.length + 1 := by
  unfold ins
  rw [if_neg h, List.length_append, List.length_append, List.length_drop, List.length_singleton]
  have := List.length_filter_le (fun r => decide (r < x)) xs
  omega
theorem ins_len_le {xs : List Rat} {x : Rat} : (ins xs x).length ≤ xs.length + 1 := by
  by_cases h : x ∈ xs
  · unfold ins; rw [if_pos h]; omega
  · rw [ins_len h]; exact Nat.le_refl _
theorem fold_asc : ∀ {l acc : List Rat}, Asc acc → Asc (l.foldl ins acc) ∧ ∀ y, y ∈ l.foldl ins acc ↔ y ∈ acc ∨ y ∈ l
  | [], acc, h => ⟨h, fun y => by simp⟩
  | x :: l, acc, h => by
    obtain ⟨h1, h2⟩ := fold_asc (l := l) (ins_asc (x := x) h)
    refine ⟨h1, fun y => ?_⟩
    rw [List.foldl_cons, h2 y, ins_mem h, List.mem_cons, or_assoc]
theorem asc_asc {l : List Rat} : Asc (asc l) := (fold_asc .nil).1
theorem asc_mem {l : List Rat} {y : Rat} : y ∈ asc l ↔ y ∈ l := by
  have := (fold_asc (l := l) (acc := []) .nil).2 y
  simpa [asc] using this
theorem fold_len : ∀ {l acc : List Rat}, Asc acc → l.Nodup → (∀ x ∈ l, x ∉ acc) → (l.foldl ins acc).length = acc.length + l.length
  | [], acc, _, _, _ => rfl
  | x :: l, acc, h, nd, hn => by
    obtain ⟨n1, n2⟩ := List.nodup_cons.mp nd
    rw [List.foldl_cons, fold_len (ins_asc h) n2 fun y hy z => ?_, ins_len (hn x List.mem_cons_self), List.length_cons]
    · omega
    · rcases (ins_mem h).mp z with z | z
      · exact hn y (List.mem_cons_of_mem _ hy) z
      · exact n1 (z ▸ hy)
theorem asc_len {l : List Rat} (h : l.Nodup) : (asc l).length = l.length := by
  have := fold_len (l := l) (acc := []) .nil h fun _ _ z => nomatch z
  simpa [asc] using this
theorem fold_len_le : ∀ {l acc : List Rat}, (l.foldl ins acc).length ≤ acc.length + l.length
  | [], acc => Nat.le_refl _
  | x :: l, acc => by
    rw [List.foldl_cons, List.length_cons]
    have h1 := fold_len_le (l := l) (acc := ins acc x)
    have h2 := ins_len_le (xs := acc) (x := x)
    omega
theorem asc_len_le {l : List Rat} : (asc l).length ≤ l.length := by
  have := fold_len_le (l := l) (acc := [])
  simpa [asc] using this
theorem Asc.nodup {l : List Rat} (h : Asc l) : l.Nodup := h.imp fun {a b} z e => by rw [e] at z; exact Rat.lt_irrefl z
/-- ascending lists with the same members are one -/
theorem Asc.ext : ∀ {l m : List Rat}, Asc l → Asc m → (∀ x, x ∈ l ↔ x ∈ m) → l = m
  | [], [], _, _, _ => rfl
  | [], b :: m, _, _, h => nomatch (h b).mpr List.mem_cons_self
  | a :: l, [], _, _, h => nomatch (h a).mp List.mem_cons_self
  | a :: l, b :: m, hl, hm, h => by
    obtain ⟨l1, l2⟩ := List.pairwise_cons.mp hl
    obtain ⟨m1, m2⟩ := List.pairwise_cons.mp hm
    have e : a = b := by
      rcases List.mem_cons.mp ((h a).mp List.mem_cons_self) with z | z
      · exact z
      · rcases List.mem_cons.mp ((h b).mpr List.mem_cons_self) with y | y
        · exact y.symm
        · exact absurd (Std.lt_trans (l1 b y) (m1 a z)) Rat.lt_irrefl
    subst e
    congr 1
    refine Asc.ext l2 m2 fun x => ⟨fun hx => ?_, fun hx => ?_⟩
    · rcases List.mem_cons.mp ((h x).mp (List.mem_cons_of_mem _ hx)) with z | z
      · exact absurd (z ▸ l1 x hx) Rat.lt_irrefl
      · exact z
    · rcases List.mem_cons.mp ((h x).mpr (List.mem_cons_of_mem _ hx)) with z | z
      · exact absurd (z ▸ m1 x hx) Rat.lt_irrefl
      · exact z
theorem asc_self {l : List Rat} (h : Asc l) : asc l = l := Asc.ext asc_asc h fun _ => asc_mem
/-- the gap of ascending points in which x lies -/
def gapn (ps : List Rat) (x : Rat) : Nat := (ps.filter fun r => decide (r < x)).length
theorem gapn_le {ps : List Rat} {x : Rat} : gapn ps x ≤ ps.length := List.length_filter_le _ _
mutual
def supp : Val → List Rat
  | .word _ => []
  | .pt r => [r]
  | .row vs => asc (suppL vs)
  | .set ps _ => ps
def suppL : List Val → List Rat
  | [] => []
  | v :: vs => supp v ++ suppL vs
end
theorem suppL_map : ∀ vs : List Val, suppL vs = vs.flatMap supp
  | [] => rfl
  | v :: vs => by rw [suppL, List.flatMap_cons, suppL_map vs]
mutual
def dep : Val → Nat
  | .word _ => 0
  | .pt _ => 0
  | .row vs => 1 + depL vs
  | .set _ ms => 1 + depL ms
def depL : List Val → Nat
  | [] => 0
  | v :: vs => max (dep v) (depL vs)
end
theorem dep_mem {vs : List Val} {v : Val} (h : v ∈ vs) : dep v ≤ depL vs := by
  induction vs with
  | nil => cases h
  | cons u vs ih =>
    rw [depL]
    rcases List.mem_cons.mp h with rfl | h
    · exact Nat.le_max_left _ _
    · exact Nat.le_trans (ih h) (Nat.le_max_right _ _)
theorem depL_le {vs : List Val} {n : Nat} (h : ∀ v ∈ vs, dep v ≤ n) : depL vs ≤ n := by
  induction vs with
  | nil => exact Nat.zero_le _
  | cons u vs ih =>
    rw [depL]
    exact Nat.max_le.mpr ⟨h u List.mem_cons_self, ih fun v hv => h v (List.mem_cons_of_mem _ hv)⟩
mutual
def vsz : Val → Nat
  | .word _ => 1
  | .pt _ => 1
  | .row vs => 1 + vszL vs
  | .set ps ms => 1 + ps.length + vszL ms
def vszL : List Val → Nat
  | [] => 0
  | v :: vs => vsz v + vszL vs
end
theorem vsz_pos (v : Val) : 0 < vsz v := by cases v <;> simp [vsz] <;> omega
theorem vsz_mem {vs : List Val} {v : Val} (h : v ∈ vs) : vsz v ≤ vszL vs := by
  induction vs with
  | nil => cases h
  | cons u vs ih =>
    rw [vszL]
    rcases List.mem_cons.mp h with rfl | h
    · omega
    · have := ih h; omega
theorem len_vszL {vs : List Val} : vs.length ≤ vszL vs := by
  induction vs with
  | nil => exact Nat.le_refl _
  | cons u vs ih =>
    rw [vszL, List.length_cons]
    have := vsz_pos u
    omega
theorem suppL_len {vs : List Val} (h : ∀ v ∈ vs, (supp v).length ≤ vsz v) : (suppL vs).length ≤ vszL vs := by
  induction vs with
  | nil => exact Nat.le_refl _
  | cons u vs ih =>
    rw [suppL, vszL, List.length_append]
    have h1 := h u List.mem_cons_self
    have h2 := ih fun v hv => h v (List.mem_cons_of_mem _ hv)
    omega
theorem supp_len (v : Val) : (supp v).length ≤ vsz v := by
  induction v using Val.ind with
  | hw s => simp [supp]
  | hp r => simp [supp, vsz]
  | hr vs ih =>
    rw [supp, vsz]
    have h1 := asc_len_le (l := suppL vs)
    have h2 := suppL_len ih
    omega
  | hs ps ms ih => rw [supp, vsz]; omega
/-- small letters, at least one -/
def lowW (s : Str) : Bool := !s.cps.toList.isEmpty && s.cps.toList.all fun c => decide (97 ≤ c) && decide (c ≤ 122)
-- the words and the points of sets are as they should be
mutual
def WV : Val → Prop
  | .word s => PyData.strOk s = true ∧ s.length ≤ 8 ∧ lowW s = true
  | .pt _ => True
  | .row vs => WVL vs
  | .set ps ms => Asc ps ∧ WVL ms
def WVL : List Val → Prop
  | [] => True
  | v :: vs => WV v ∧ WVL vs
end
theorem WVL_iff {vs : List Val} : WVL vs ↔ ∀ v ∈ vs, WV v := by
  induction vs with
  | nil => exact ⟨fun _ v hv => (nomatch hv), fun _ => trivial⟩
  | cons u vs ih =>
    rw [WVL, ih]
    exact ⟨fun h v hv => (List.mem_cons.mp hv).elim (fun e => e ▸ h.1) (h.2 v), fun h => ⟨h u List.mem_cons_self, fun v hv => h v (List.mem_cons_of_mem _ hv)⟩⟩
theorem supp_asc {v : Val} (h : WV v) : Asc (supp v) := by
  cases v with
  | word s => exact .nil
  | pt r => exact List.pairwise_singleton _ _
  | row vs => rw [supp]; exact asc_asc
  | set ps ms => rw [WV] at h; exact h.1
-- bits: of the points that stand outside of sets' members k, of those within them 2 * k + 12 ..
mutual
def BV : Nat → Val → Prop
  | _, .word _ => True
  | k, .pt r => bd k r
  | k, .row vs => BVL k vs
  | k, .set ps ms => (∀ r ∈ ps, bd k r) ∧ BVL (2 * k + 12) ms
def BVL : Nat → List Val → Prop
  | _, [] => True
  | k, v :: vs => BV k v ∧ BVL k vs
end
theorem BVL_iff {k : Nat} {vs : List Val} : BVL k vs ↔ ∀ v ∈ vs, BV k v := by
  induction vs with
  | nil => exact ⟨fun _ v hv => (nomatch hv), fun _ => by simp [BVL]⟩
  | cons u vs ih =>
    rw [BVL, ih]
    exact ⟨fun h v hv => (List.mem_cons.mp hv).elim (fun e => e ▸ h.1) (h.2 v), fun h => ⟨h u List.mem_cons_self, fun v hv => h v (List.mem_cons_of_mem _ hv)⟩⟩
theorem BV.mono {v : Val} : ∀ {j k : Nat}, BV j v → j ≤ k → BV k v := by
  induction v using Val.ind with
  | hw s => intro j k _ _; rw [BV]; trivial
  | hp r => intro j k h l; rw [BV] at h ⊢; exact h.mono l
  | hr vs ih =>
    intro j k h l
    rw [BV, BVL_iff] at h ⊢
    exact fun v hv => ih v hv (h v hv) l
  | hs ps ms ih =>
    intro j k h l
    rw [BV, BVL_iff] at h ⊢
    exact ⟨fun r hr => (h.1 r hr).mono l, fun v hv => ih v hv (h.2 v hv) (by omega)⟩
theorem BV.supp {v : Val} {k : Nat} (h : BV k v) : ∀ r ∈ supp v, bd k r := by
  induction v using Val.ind with
  | hw s => intro r hr; rw [LawP.supp] at hr; cases hr
  | hp r => intro r' hr; rw [LawP.supp] at hr; rw [BV] at h; have e : r' = r := by simpa using hr
            rw [e]; exact h
  | hr vs ih =>
    intro r hr
    rw [LawP.supp, asc_mem, suppL_map, List.mem_flatMap] at hr
    obtain ⟨v, hv, hr⟩ := hr
    rw [BV, BVL_iff] at h
    exact ih v hv (h v hv) r hr
  | hs ps ms ih => intro r hr; rw [BV] at h; rw [LawP.supp] at hr; exact h.1 r hr
/-! ### texts -/
def ptx (r : Rat) : Str := if r.den = 1 then shT (.int r.num) else shT (.int r.num) ++ ("/" : Str) ++ shT (.int (r.den : Int))
mutual
def txt : Val → Str
  | .word s => s
  | .pt r => ptx r
  | .row vs => ("<" : Str) ++ Txt.join " " (txtL vs) ++ (">" : Str)
  | .set ps ms => ("{" : Str) ++ Txt.join " " (ps.map ptx) ++ ("|" : Str) ++ Txt.join " " (txtL ms) ++ ("}" : Str)
def txtL : List Val → List Str
  | [] => []
  | v :: vs => txt v :: txtL vs
end
theorem txtL_map : ∀ vs : List Val, txtL vs = vs.map txt
  | [] => rfl
  | v :: vs => by rw [txtL, List.map_cons, txtL_map vs]
/-- the members, by their texts -/
def sortV (vs : List Val) : List Val := vs.mergeSort (PySem.W.dataLe false fun v => PyData.str (txt v))
theorem sortV_perm {vs : List Val} : (sortV vs).Perm vs := List.mergeSort_perm _ _
theorem sortT_map {vs : List Val} {key : T → Str} (h : ∀ v ∈ vs, key (vT v) = txt v) : sortT key (vs.map vT) = (sortV vs).map vT := by
  unfold sortT sortV
  refine (List.map_mergeSort fun a ha b hb => ?_).symm
  unfold PySem.W.dataLe PySem.W.sortLe
  dsimp only
  rw [h a ha, h b hb]
end LawP

/-! LS: spread places. -/
namespace LawP
open PySem PySem.Spec PyProof.Rows L2 L3
def sprAt (ps : List Rat) (g n i : Nat) : Rat :=
  if ps = [] then (((i : Nat) : Int) : Rat)
  else if g = 0 then ps.getD 0 0 + (((i : Int) - (n : Int) : Int) : Rat)
  else if g = ps.length then ps.getD (g - 1) 0 + (((i : Int) + 1 : Int) : Rat)
  else ps.getD (g - 1) 0 * ((((n : Int) + 1 : Int) : Rat) - (((i : Int) + 1 : Int) : Rat)) / (((n : Int) + 1 : Int) : Rat) + ps.getD g 0 * (((i : Int) + 1 : Int) : Rat) / (((n : Int) + 1 : Int) : Rat)
def spr (ps : List Rat) (g n : Nat) : List Rat := (List.range n).map (sprAt ps g n)
theorem atI_pts {rs : List Rat} {j : Nat} {r : Rat} (h : rs[j]? = some r) : atI (rs.map rT) (j : Int) = some (rT r) := atI_nat (by rw [List.getElem?_map, h]; rfl)
theorem getD_of {rs : List Rat} {j : Nat} (h : j < rs.length) : rs[j]? = some (rs.getD j 0) := by
  rw [List.getD_eq_getElem?_getD, List.getElem?_eq_getElem h]
  rfl
theorem mem_getD {rs : List Rat} {j : Nat} (h : j < rs.length) : rs.getD j 0 ∈ rs := List.mem_of_getElem? (getD_of h)
theorem sz1000 {n : Nat} (h : n ≤ 1000) : n < sizeLine := small1000 h
theorem filt_at : ∀ {ps : List Rat} {i : Nat} {x y : Rat}, ps.Pairwise (· < ·) → (∀ j z, ps[j]? = some z → j < i → z < x) → ps[i]? = some y → x < y → x ∉ ps ∧ (ps.filter fun r => decide (r < x)).length = i
  | [], i, x, y, _, _, e, _ => by simp at e
  | p :: ps, 0, x, y, hs, _, e, hxy => by
    have e : p = y := by simpa using e
    subst e
    rw [List.pairwise_cons] at hs
    refine ⟨fun hm => ?_, ?_⟩
    · rcases List.mem_cons.mp hm with z | z
      · subst z; exact Rat.lt_irrefl hxy
      · have := hs.1 x z
        grind
    · rw [List.length_eq_zero_iff, List.filter_eq_nil_iff]
      intro r hr
      rcases List.mem_cons.mp hr with z | z
      · subst z
        simp only [decide_eq_true_eq]
        grind
      · have := hs.1 r z
        simp only [decide_eq_true_eq]
        grind
  | p :: ps, i + 1, x, y, hs, hj, e, hxy => by
    have hp : p < x := hj 0 p rfl (by omega)
    rw [List.pairwise_cons] at hs
    obtain ⟨h1, h2⟩ := filt_at (ps := ps) (i := i) hs.2 (fun j z ez hji => hj (j + 1) z (by simpa using ez) (by omega)) (by simpa using e) hxy
    refine ⟨fun hm => ?_, ?_⟩
    · rcases List.mem_cons.mp hm with z | z
      · subst z; exact Rat.lt_irrefl hp
      · exact h1 z
    · rw [List.filter_cons_of_pos (p := fun r => decide (r < x)) (decide_eq_true hp), List.length_cons, h2]
theorem pw_le {ps : List Rat} (hs : ps.Pairwise (· < ·)) {i j : Nat} (h : i ≤ j) (hj : j < ps.length) : ps.getD i 0 ≤ ps.getD j 0 := by
  rcases Nat.lt_or_eq_of_le h with h | h
  · have := List.pairwise_iff_getElem.mp hs i j (by omega) hj h
    rw [List.getD_eq_getElem?_getD, List.getD_eq_getElem?_getD, List.getElem?_eq_getElem (by omega), List.getElem?_eq_getElem hj]
    exact Rat.le_of_lt this
  · rw [h]
    exact Rat.le_refl
theorem pw_lt {ps : List Rat} (hs : ps.Pairwise (· < ·)) {i j : Nat} (h : i < j) (hj : j < ps.length) : ps.getD i 0 < ps.getD j 0 := by
  have := List.pairwise_iff_getElem.mp hs i j (by omega) hj h
  rw [List.getD_eq_getElem?_getD, List.getD_eq_getElem?_getD, List.getElem?_eq_getElem (by omega), List.getElem?_eq_getElem hj]
  exact this
theorem gap_spr {ps : List Rat} {g n : Nat} (hs : ps.Pairwise (· < ·)) (hg : g ≤ ps.length) : ∀ f ∈ spr ps g n, f ∉ ps ∧ gapn ps f = g := by
  intro f hf
  unfold spr at hf
  obtain ⟨i, hi, rfl⟩ := List.mem_map.mp hf
  rw [List.mem_range] at hi
  unfold sprAt
  by_cases hp : ps = []
  · subst hp
    have hg : g = 0 := by simpa using hg
    subst hg
    exact ⟨(fun z => nomatch z), rfl⟩
  have h0 : 0 < ps.length := List.length_pos_iff.mpr hp
  rw [if_neg hp]
  by_cases hg0 : g = 0
  · subst hg0
    rw [if_pos rfl]
    have hlt : (((i : Int) - (n : Int) : Int) : Rat) < 0 := by
      have : ((i : Int) - (n : Int)) < 0 := by omega
      exact_mod_cast this
    obtain ⟨f1, f2⟩ := filt_at (i := 0) (x := ps.getD 0 0 + (((i : Int) - (n : Int) : Int) : Rat)) hs (fun j z _ h => by omega) (getD_of h0) (by grind)
    exact ⟨f1, f2⟩
  rw [if_neg hg0]
  by_cases hgl : g = ps.length
  · rw [if_pos hgl]
    have hgt : (0 : Rat) < (((i : Int) + 1 : Int) : Rat) := by
      have : (0 : Int) < (i : Int) + 1 := by omega
      exact_mod_cast this
    have all : ∀ r ∈ ps, r < ps.getD (g - 1) 0 + (((i : Int) + 1 : Int) : Rat) := fun r hr => by
      obtain ⟨j, hj1, hj2⟩ := List.mem_iff_getElem.mp hr
      have := pw_le hs (i := j) (j := g - 1) (by omega) (by omega)
      rw [List.getD_eq_getElem?_getD, List.getElem?_eq_getElem hj1, hj2] at this
      have this : r ≤ ps.getD (g - 1) 0 := this
      grind
    exact ⟨fun hm => Rat.lt_irrefl (all _ hm), by unfold gapn; rw [List.filter_eq_self.mpr (fun r hr => decide_eq_true (all r hr)), hgl]⟩
  · rw [if_neg hgl]
    have hab := pw_lt hs (i := g - 1) (j := g) (by omega) (by omega)
    have hn : (0 : Rat) < (((n : Int) + 1 : Int) : Rat) := by
      have : (0 : Int) < (n : Int) + 1 := by omega
      exact_mod_cast this
    have hi0 : (0 : Rat) < (((i : Int) + 1 : Int) : Rat) := by
      have : (0 : Int) < (i : Int) + 1 := by omega
      exact_mod_cast this
    have hi1 : (((i : Int) + 1 : Int) : Rat) < (((n : Int) + 1 : Int) : Rat) := by
      have : (i : Int) + 1 < (n : Int) + 1 := by omega
      exact_mod_cast this
    have key : ∀ a b m j : Rat, a < b → 0 < m → 0 < j → j < m → a < a * (m - j) / m + b * j / m ∧ a * (m - j) / m + b * j / m < b := by
      intro a b m j h1 h2 h3 h4
      have e : a * (m - j) / m + b * j / m = (a * (m - j) + b * j) / m := by grind
      rw [e, Rat.lt_div_iff h2, Rat.div_lt_iff h2]
      have p1 : 0 < (b - a) * j := Rat.mul_pos (by grind) h3
      have p2 : 0 < (b - a) * (m - j) := Rat.mul_pos (by grind) (by grind)
      constructor <;> grind
    obtain ⟨k1, k2⟩ := key _ _ _ _ hab hn hi0 hi1
    generalize hx : ps.getD (g - 1) 0 * ((((n : Int) + 1 : Int) : Rat) - (((i : Int) + 1 : Int) : Rat)) / (((n : Int) + 1 : Int) : Rat) + ps.getD g 0 * (((i : Int) + 1 : Int) : Rat) / (((n : Int) + 1 : Int) : Rat) = x at *
    obtain ⟨f1, f2⟩ := filt_at (i := g) (x := x) hs (fun j z ez hj => by
      have := pw_le hs (i := j) (j := g - 1) (by omega) (by omega)
      rw [List.getD_eq_getElem?_getD, ez] at this
      have this : z ≤ ps.getD (g - 1) 0 := this
      grind) (getD_of (by omega)) k2
    exact ⟨f1, f2⟩

theorem spr_len {ps : List Rat} {g n : Nat} : (spr ps g n).length = n := by simp [spr]
theorem sprAt_lt {ps : List Rat} {g n i j : Nat} (hs : ps.Pairwise (· < ·)) (hg : g ≤ ps.length) (h : i < j) : sprAt ps g n i < sprAt ps g n j := by
  have hij : (((i : Nat) : Int) : Rat) < (((j : Nat) : Int) : Rat) := by
    have : ((i : Nat) : Int) < ((j : Nat) : Int) := by omega
    exact_mod_cast this
  unfold sprAt
  by_cases hp : ps = []
  · rw [if_pos hp, if_pos hp]; exact hij
  rw [if_neg hp, if_neg hp]
  by_cases hg0 : g = 0
  · rw [if_pos hg0, if_pos hg0]
    have : (((i : Int) - (n : Int) : Int) : Rat) < (((j : Int) - (n : Int) : Int) : Rat) := by
      have : ((i : Int) - (n : Int)) < ((j : Int) - (n : Int)) := by omega
      exact_mod_cast this
    generalize (((i : Int) - (n : Int) : Int) : Rat) = x at *
    generalize (((j : Int) - (n : Int) : Int) : Rat) = y at *
    grind
  rw [if_neg hg0, if_neg hg0]
  by_cases hgl : g = ps.length
  · rw [if_pos hgl, if_pos hgl]
    have : (((i : Int) + 1 : Int) : Rat) < (((j : Int) + 1 : Int) : Rat) := by
      have : ((i : Int) + 1) < ((j : Int) + 1) := by omega
      exact_mod_cast this
    generalize (((i : Int) + 1 : Int) : Rat) = x at *
    generalize (((j : Int) + 1 : Int) : Rat) = y at *
    grind
  · rw [if_neg hgl, if_neg hgl]
    have hab := pw_lt hs (i := g - 1) (j := g) (by omega) (by omega)
    have hn : (0 : Rat) < (((n : Int) + 1 : Int) : Rat) := by
      have : (0 : Int) < (n : Int) + 1 := by omega
      exact_mod_cast this
    have e1 : (((i : Int) + 1 : Int) : Rat) < (((j : Int) + 1 : Int) : Rat) := by
      have : (i : Int) + 1 < (j : Int) + 1 := by omega
      exact_mod_cast this
    generalize (((n : Int) + 1 : Int) : Rat) = m at *
    generalize (((i : Int) + 1 : Int) : Rat) = x at *
    generalize (((j : Int) + 1 : Int) : Rat) = y at *
    generalize ps.getD (g - 1) 0 = a at *
    generalize ps.getD g 0 = b at *
    have e : ∀ x : Rat, a * (m - x) / m + b * x / m = (a * (m - x) + b * x) / m := fun x => by grind
    rw [e, e, Rat.div_lt_iff hn]
    have e2 : (a * (m - y) + b * y) / m * m = a * (m - y) + b * y := by grind
    rw [e2]
    have p1 : 0 < (b - a) * (y - x) := Rat.mul_pos (by grind) (by grind)
    grind
theorem spr_asc {ps : List Rat} {g n : Nat} (hs : ps.Pairwise (· < ·)) (hg : g ≤ ps.length) : Asc (spr ps g n) := by
  unfold spr
  refine List.pairwise_map.mpr ?_
  exact (List.pairwise_lt_range).imp fun h => sprAt_lt hs hg h
theorem bd_frac {k : Nat} {p q : Int} (hq : 0 < q) (h1 : p.natAbs < 2 ^ k) (h2 : q.natAbs < 2 ^ k) : bd k ((p : Rat) / (q : Rat)) := by
  rw [← mk_int hq]
  exact bd_mk h1 (by omega) (by omega)
theorem bits_spr {k : Nat} {ps : List Rat} {g n : Nat} (hk : 1 ≤ k) (hb : ∀ r ∈ ps, bd k r) (hg : g ≤ ps.length) (hn : n ≤ 1000) : ∀ f ∈ spr ps g n, bd (2 * k + 12) f := by
  intro f hf
  unfold spr at hf
  obtain ⟨i, hi, rfl⟩ := List.mem_map.mp hf
  rw [List.mem_range] at hi
  have sm : ∀ z : Int, z.natAbs ≤ 1001 → z.natAbs < 2 ^ 10 := fun z h => Nat.lt_of_le_of_lt h (by decide)
  have shift : ∀ (r : Rat) (z : Int), bd k r → z.natAbs ≤ 1001 → bd (2 * k + 12) (r + (z : Rat)) := fun r z h hz => by
    have e : r + (z : Rat) = ((r.num + z * r.den : Int) : Rat) / ((r.den : Int) : Rat) := by
      have h1 := rat_num_den r
      have h2 := den_ne r
      push_cast
      have e1 : ((r.den : Int) : Rat) = (r.den : Rat) := rfl
      try rw [e1]
      generalize (r.num : Rat) = a at *
      generalize (r.den : Rat) = c at *
      generalize (z : Rat) = y at *
      rw [h1]
      grind
    rw [e]
    refine bd_frac bd_pos ?_ (two_le h.d (by omega))
    have a1 := natAbs_mul_lt (sm z hz) h.d
    exact two_le (natAbs_add_lt (k := 10 + k) (two_le h.1 (by omega)) a1) (by omega)
  unfold sprAt
  by_cases hp : ps = []
  · rw [if_pos hp]
    refine (bd_int (k := 10) ?_ (by decide)).mono (by omega)
    exact sm _ (by omega)
  have h0 : 0 < ps.length := List.length_pos_iff.mpr hp
  rw [if_neg hp]
  by_cases hg0 : g = 0
  · rw [if_pos hg0]
    exact shift _ _ (hb _ (mem_getD h0)) (by omega)
  rw [if_neg hg0]
  by_cases hgl : g = ps.length
  · rw [if_pos hgl]
    exact shift _ _ (hb _ (mem_getD (by omega))) (by omega)
  · rw [if_neg hgl]
    have ha := hb _ (mem_getD (rs := ps) (j := g - 1) (by omega))
    have hc := hb _ (mem_getD (rs := ps) (j := g) (by omega))
    generalize ps.getD (g - 1) 0 = r at *
    generalize ps.getD g 0 = s at *
    have hm : (0 : Int) < (n : Int) + 1 := by omega
    have hp : (0 : Int) < (r.den : Int) * (s.den : Int) * ((n : Int) + 1) := Int.mul_pos (Int.mul_pos bd_pos bd_pos) hm
    have e : r * ((((n : Int) + 1 : Int) : Rat) - (((i : Int) + 1 : Int) : Rat)) / (((n : Int) + 1 : Int) : Rat) + s * (((i : Int) + 1 : Int) : Rat) / (((n : Int) + 1 : Int) : Rat) =
        ((r.num * (s.den : Int) * ((n : Int) - (i : Int)) + s.num * (r.den : Int) * ((i : Int) + 1) : Int) : Rat) / (((r.den : Int) * (s.den : Int) * ((n : Int) + 1) : Int) : Rat) := by
      have h3 := rat_num_den r
      have h4 := rat_num_den s
      have h5 := den_ne r
      have h6 := den_ne s
      have h7 : ((n : Rat) + 1) ≠ 0 := by
        have : (0 : Rat) < (((n : Int) + 1 : Int) : Rat) := by exact_mod_cast hm
        push_cast at this
        intro z
        have e8 : (((n : Int)) : Rat) = (n : Rat) := rfl
        try rw [e8] at this
        rw [z] at this
        exact Rat.lt_irrefl this
      push_cast
      have e1 : ((r.den : Int) : Rat) = (r.den : Rat) := rfl
      have e2 : ((s.den : Int) : Rat) = (s.den : Rat) := rfl
      have e3 : ((n : Int) : Rat) = (n : Rat) := rfl
      have e4 : ((i : Int) : Rat) = (i : Rat) := rfl
      try rw [e1]
      try rw [e2]
      try rw [e3]
      try rw [e4]
      generalize (r.num : Rat) = a at *
      generalize (s.num : Rat) = b at *
      generalize (r.den : Rat) = c at *
      generalize (s.den : Rat) = d at *
      generalize (n : Rat) = m at *
      generalize (i : Rat) = j at *
      subst h3 h4
      grind
    rw [e]
    have i1 := sm ((n : Int) - (i : Int)) (by omega)
    have i2 := sm ((i : Int) + 1) (by omega)
    have i3 := sm ((n : Int) + 1) (by omega)
    have a1 := natAbs_mul_lt (natAbs_mul_lt ha.1 hc.d) i1
    have a2 := natAbs_mul_lt (natAbs_mul_lt hc.1 ha.d) i2
    have a3 := natAbs_mul_lt (natAbs_mul_lt ha.d hc.d) i3
    exact bd_frac hp (two_le (natAbs_add_lt (k := k + k + 10) a1 a2) (by omega)) (two_le a3 (by omega))
end LawP

/-! LM: values led, values placed. -/
namespace LawP
open PySem PySem.Spec PyProof.Rows L2 L3

/-- points and further points; where they go -/
def endsO (olds fur : List Rat) : List Rat := asc (olds ++ fur)
def sprs (olds news fur : List Rat) (m : Nat) : List Rat := (List.range m).flatMap fun g => spr news g (fur.filter fun x => decide (gapn olds x = g)).length
def endsN (olds news fur : List Rat) : List Rat := asc (news ++ sprs olds news fur (olds.length + 1))
structure EndsOk (olds news fur : List Rat) : Prop where
  o : Asc olds
  n : Asc news
  len : olds.length = news.length
  nd : fur.Nodup
  out : ∀ x ∈ fur, x ∉ olds
theorem sum_ones {c : Nat} : ∀ m : Nat, ((List.range m).map fun g => if c = g then 1 else 0).sum = if c < m then 1 else 0
  | 0 => by simp
  | m + 1 => by
    rw [List.range_succ, List.map_append, List.sum_append, sum_ones m]
    simp only [List.map_cons, List.map_nil, List.sum_cons, List.sum_nil, Nat.add_zero]
    by_cases h1 : c < m
    · rw [if_pos h1, if_neg (by omega), if_pos (by omega)]
    · by_cases h2 : c = m
      · rw [if_neg h1, if_pos h2, if_pos (by omega)]
      · rw [if_neg h1, if_neg h2, if_neg (by omega)]
theorem sum_filt {α : Type} {c : α → Nat} {m : Nat} : ∀ {xs : List α}, (∀ x ∈ xs, c x < m) → ((List.range m).map fun g => (xs.filter fun x => decide (c x = g)).length).sum = xs.length
  | [], _ => by
    have : ∀ l : List Nat, (l.map fun g => ([] : List α).length).sum = 0 := fun l => by induction l with
      | nil => rfl
      | cons a l ih => rw [List.map_cons, List.sum_cons, ih]; rfl
    exact this _
  | x :: xs, h => by
    have ih := sum_filt (xs := xs) fun y hy => h y (List.mem_cons_of_mem _ hy)
    have h1 := sum_ones (c := c x) m
    rw [if_pos (h x List.mem_cons_self)] at h1
    have key : ∀ l : List Nat, (l.map fun g => ((x :: xs).filter fun y => decide (c y = g)).length).sum = (l.map fun g => if c x = g then 1 else 0).sum + (l.map fun g => (xs.filter fun y => decide (c y = g)).length).sum := fun l => by
      induction l with
      | nil => rfl
      | cons a l ih2 =>
        simp only [List.map_cons, List.sum_cons, ih2]
        by_cases e : c x = a
        · rw [List.filter_cons_of_pos (by simpa using e), if_pos e, List.length_cons]; omega
        · rw [List.filter_cons_of_neg (by simpa using e), if_neg e]; omega
    rw [key, h1, ih, List.length_cons]
    omega
theorem sprs_at {olds news fur : List Rat} {m : Nat} (hn : Asc news) (hm : m ≤ news.length + 1) {f : Rat} (h : f ∈ sprs olds news fur m) : f ∉ news ∧ gapn news f < m := by
  unfold sprs at h
  obtain ⟨g, hg, hf⟩ := List.mem_flatMap.mp h
  rw [List.mem_range] at hg
  obtain ⟨h1, h2⟩ := gap_spr hn (by omega) f hf
  exact ⟨h1, by omega⟩
theorem sprs_nodup {olds news fur : List Rat} {m : Nat} (hn : Asc news) (hm : m ≤ news.length + 1) : (sprs olds news fur m).Nodup := by
  unfold sprs List.Nodup
  refine List.pairwise_flatMap.mpr ⟨fun g hg => ?_, ?_⟩
  · rw [List.mem_range] at hg
    exact (spr_asc hn (by omega)).nodup
  · refine List.Pairwise.imp_of_mem (R := fun a b => a < b) (fun {a b} ha hb hab x hx y hy e => ?_) List.pairwise_lt_range
    rw [List.mem_range] at ha hb
    have h1 := (gap_spr hn (by omega) x hx).2
    have h2 := (gap_spr hn (by omega) y hy).2
    rw [e, h2] at h1
    omega
theorem sprs_len {olds news fur : List Rat} : (sprs olds news fur (olds.length + 1)).length = fur.length := by
  unfold sprs
  rw [List.length_flatMap]
  have := sum_filt (c := gapn olds) (m := olds.length + 1) (xs := fur) fun x _ => Nat.lt_succ_of_le gapn_le
  rw [← this]
  congr 1
  exact List.map_congr_left fun g _ => spr_len
section
variable {olds news fur : List Rat}
theorem EndsOk.lenO (h : EndsOk olds news fur) : (endsO olds fur).length = olds.length + fur.length := by
  unfold endsO
  rw [asc_len (List.nodup_append.mpr ⟨h.o.nodup, h.nd, fun a ha b hb e => h.out b hb (e ▸ ha)⟩), List.length_append]
theorem EndsOk.lenN (h : EndsOk olds news fur) : (endsN olds news fur).length = olds.length + fur.length := by
  unfold endsN
  rw [asc_len (List.nodup_append.mpr ⟨h.n.nodup, sprs_nodup h.n (by rw [h.len]; exact Nat.le_refl _), fun a ha b hb e => (sprs_at h.n (by rw [h.len]; exact Nat.le_refl _) hb).1 (e ▸ ha)⟩), List.length_append, sprs_len, h.len]
theorem EndsOk.len2 (h : EndsOk olds news fur) : (endsO olds fur).length = (endsN olds news fur).length := h.lenO.trans h.lenN.symm
theorem endsO_mem {x : Rat} : x ∈ endsO olds fur ↔ x ∈ olds ∨ x ∈ fur := by unfold endsO; rw [asc_mem, List.mem_append]
theorem endsN_mem {x : Rat} : x ∈ endsN olds news fur ↔ x ∈ news ∨ x ∈ sprs olds news fur (olds.length + 1) := by unfold endsN; rw [asc_mem, List.mem_append]
end
/-! ### led -/
def lead (olds news : List Rat) (r : Rat) : Rat := news.getD (olds.idxOf r) 0
section
variable {olds news : List Rat}
theorem lead_at {r : Rat} (h : r ∈ olds) (hl : olds.length = news.length) : news[olds.idxOf r]? = some (lead olds news r) := by
  have h1 := List.idxOf_lt_length_of_mem h
  unfold lead
  rw [List.getD_eq_getElem?_getD, List.getElem?_eq_getElem (by omega)]
  rfl
theorem lead_mem {r : Rat} (h : r ∈ olds) (hl : olds.length = news.length) : lead olds news r ∈ news := List.mem_of_getElem? (lead_at h hl)
theorem lead_lt {r s : Rat} (ho : Asc olds) (hn : Asc news) (hl : olds.length = news.length) (hr : r ∈ olds) (hs : s ∈ olds) (h : r < s) : lead olds news r < lead olds news s := by
  have i1 := List.idxOf_lt_length_of_mem hr
  have i2 := List.idxOf_lt_length_of_mem hs
  have e1 : olds[olds.idxOf r] = r := List.getElem_idxOf i1
  have e2 : olds[olds.idxOf s] = s := List.getElem_idxOf i2
  have hlt : olds.idxOf r < olds.idxOf s := by
    refine Nat.lt_of_not_le fun z => ?_
    rcases Nat.lt_or_eq_of_le z with z | z
    · have := List.pairwise_iff_getElem.mp ho _ _ i2 i1 z
      rw [e1, e2] at this
      exact Rat.lt_irrefl (Std.lt_trans h this)
    · have e3 : olds[olds.idxOf s]? = olds[olds.idxOf r]? := by rw [z]
      rw [List.getElem?_eq_getElem i1, List.getElem?_eq_getElem i2, e1, e2] at e3
      cases e3
      exact Rat.lt_irrefl h
  exact pw_lt hn hlt (by omega)
theorem lead_asc {ps : List Rat} (ho : Asc olds) (hn : Asc news) (hl : olds.length = news.length) (hp : Asc ps) (hm : ∀ r ∈ ps, r ∈ olds) : Asc (ps.map (lead olds news)) := by
  refine List.pairwise_map.mpr (List.Pairwise.imp_of_mem (fun {a b} ha hb h => lead_lt ho hn hl (hm a ha) (hm b hb) h) hp)
end
/-- the points of a value that are none of ps -/
def furth (ps : List Rat) (v : Val) : List Rat := (supp v).filter fun r => !decide (r ∈ ps)
mutual
def mvd : Val → List Rat → List Rat → Val
  | .word s, _, _ => .word s
  | .pt r, olds, news => .pt (lead olds news r)
  | .row vs, olds, news => .row (mvdL vs olds news)
  | .set ps ms, olds, news => .set (ps.map (lead olds news)) (sortV (mvdM ps (ps.map (lead olds news)) ms))
def mvdL : List Val → List Rat → List Rat → List Val
  | [], _, _ => []
  | v :: vs, olds, news => mvd v olds news :: mvdL vs olds news
def mvdM (ps led : List Rat) : List Val → List Val
  | [] => []
  | m :: ms => mvd m (endsO ps (furth ps m)) (endsN ps led (furth ps m)) :: mvdM ps led ms
end
theorem mvdL_map {olds news : List Rat} : ∀ vs : List Val, mvdL vs olds news = vs.map fun v => mvd v olds news
  | [] => rfl
  | v :: vs => by rw [mvdL, List.map_cons, mvdL_map vs]
theorem mvdM_map {ps led : List Rat} : ∀ ms : List Val, mvdM ps led ms = ms.map fun m => mvd m (endsO ps (furth ps m)) (endsN ps led (furth ps m))
  | [] => rfl
  | m :: ms => by rw [mvdM, List.map_cons, mvdM_map ms]
/-- what leading asks -/
structure MvOk (v : Val) (olds news : List Rat) : Prop where
  wv : WV v
  o : Asc olds
  n : Asc news
  len : olds.length = news.length
  sub : ∀ r ∈ supp v, r ∈ olds
theorem furth_nodup {ps : List Rat} {v : Val} (h : WV v) : (furth ps v).Nodup := (supp_asc h).nodup.filter _
theorem furth_out {ps : List Rat} {v : Val} : ∀ x ∈ furth ps v, x ∉ ps := fun x hx => by
  unfold furth at hx
  rw [List.mem_filter] at hx
  simpa using hx.2
theorem furth_in {ps : List Rat} {v : Val} : ∀ x ∈ furth ps v, x ∈ supp v := fun x hx => (List.mem_filter.mp hx).1
theorem furth_sub {ps : List Rat} {v : Val} : ∀ r ∈ supp v, r ∈ ps ∨ r ∈ furth ps v := fun r hr => by
  by_cases h : r ∈ ps
  · exact .inl h
  · exact .inr (List.mem_filter.mpr ⟨hr, by simpa using h⟩)
theorem MvOk.row {vs : List Val} {olds news : List Rat} (h : MvOk (.row vs) olds news) : ∀ v ∈ vs, MvOk v olds news := fun v hv => by
  have w := h.wv
  rw [WV, WVL_iff] at w
  refine ⟨w v hv, h.o, h.n, h.len, fun r hr => h.sub r ?_⟩
  rw [supp, asc_mem, suppL_map]
  exact List.mem_flatMap.mpr ⟨v, hv, hr⟩
theorem MvOk.led {ps : List Rat} {ms : List Val} {olds news : List Rat} (h : MvOk (.set ps ms) olds news) : Asc ps ∧ Asc (ps.map (lead olds news)) := by
  have w := h.wv
  rw [WV] at w
  exact ⟨w.1, lead_asc h.o h.n h.len w.1 fun r hr => h.sub r (by rw [supp]; exact hr)⟩
theorem MvOk.ends {ps : List Rat} {ms : List Val} {olds news : List Rat} (h : MvOk (.set ps ms) olds news) : ∀ m ∈ ms, EndsOk ps (ps.map (lead olds news)) (furth ps m) := fun m hm => by
  have w := h.wv
  rw [WV, WVL_iff] at w
  exact ⟨h.led.1, h.led.2, by rw [List.length_map], furth_nodup (w.2 m hm), furth_out⟩
theorem MvOk.set {ps : List Rat} {ms : List Val} {olds news : List Rat} (h : MvOk (.set ps ms) olds news) : ∀ m ∈ ms, MvOk m (endsO ps (furth ps m)) (endsN ps (ps.map (lead olds news)) (furth ps m)) := fun m hm => by
  have w := h.wv
  rw [WV, WVL_iff] at w
  exact ⟨w.2 m hm, asc_asc, asc_asc, (h.ends m hm).len2, fun r hr => endsO_mem.mpr (furth_sub r hr)⟩
theorem supp_mvd {v : Val} : ∀ {olds news : List Rat}, MvOk v olds news → supp (mvd v olds news) = (supp v).map (lead olds news) := by
  induction v using Val.ind with
  | hw s => intro olds news h; rw [mvd, supp]; rfl
  | hp r => intro olds news h; rw [mvd, supp, supp]; rfl
  | hr vs ih =>
    intro olds news h
    have hv := h.row
    rw [mvd, supp, supp, mvdL_map, suppL_map, suppL_map]
    refine Asc.ext asc_asc (lead_asc h.o h.n h.len asc_asc fun r hr => h.sub r (by rw [supp, suppL_map]; exact hr)) fun x => ?_
    rw [asc_mem, List.mem_flatMap, List.mem_map]
    constructor
    · rintro ⟨u, hu, hx⟩
      obtain ⟨v, hvs, rfl⟩ := List.mem_map.mp hu
      rw [ih v hvs (hv v hvs)] at hx
      obtain ⟨r, hr, rfl⟩ := List.mem_map.mp hx
      exact ⟨r, asc_mem.mpr (List.mem_flatMap.mpr ⟨v, hvs, hr⟩), rfl⟩
    · rintro ⟨r, hr, rfl⟩
      obtain ⟨v, hvs, hr⟩ := List.mem_flatMap.mp (asc_mem.mp hr)
      refine ⟨_, List.mem_map.mpr ⟨v, hvs, rfl⟩, ?_⟩
      rw [ih v hvs (hv v hvs)]
      exact List.mem_map.mpr ⟨r, hr, rfl⟩
  | hs ps ms ih => intro olds news h; rw [mvd, supp, supp]
theorem supp_mvd_in {v : Val} {olds news : List Rat} (h : MvOk v olds news) : ∀ r ∈ supp (mvd v olds news), r ∈ news := fun r hr => by
  rw [supp_mvd h] at hr
  obtain ⟨s, hs, rfl⟩ := List.mem_map.mp hr
  exact lead_mem (h.sub s hs) h.len
theorem WV_mvd {v : Val} : ∀ {olds news : List Rat}, MvOk v olds news → WV (mvd v olds news) := by
  induction v using Val.ind with
  | hw s => intro olds news h; rw [mvd]; exact h.wv
  | hp r => intro olds news h; rw [mvd, WV]; trivial
  | hr vs ih =>
    intro olds news h
    rw [mvd, WV, WVL_iff, mvdL_map]
    intro u hu
    obtain ⟨v, hv, rfl⟩ := List.mem_map.mp hu
    exact ih v hv (h.row v hv)
  | hs ps ms ih =>
    intro olds news h
    rw [mvd, WV, WVL_iff, mvdM_map]
    refine ⟨h.led.2, fun u hu => ?_⟩
    obtain ⟨m, hm, rfl⟩ := List.mem_map.mp (sortV_perm.mem_iff.mp hu)
    exact ih m hm (h.set m hm)
theorem vszL_perm {a b : List Val} (h : a.Perm b) : vszL a = vszL b := by
  induction h with
  | nil => rfl
  | cons x _ ih => rw [vszL, vszL, ih]
  | swap x y l => rw [vszL, vszL, vszL, vszL]; omega
  | trans _ _ h1 h2 => exact h1.trans h2
theorem vszL_map {vs : List Val} {f : Val → Val} (h : ∀ v ∈ vs, vsz (f v) = vsz v) : vszL (vs.map f) = vszL vs := by
  induction vs with
  | nil => rfl
  | cons u vs ih => rw [List.map_cons, vszL, vszL, h u List.mem_cons_self, ih fun v hv => h v (List.mem_cons_of_mem _ hv)]
theorem vsz_mvd (v : Val) : ∀ (olds news : List Rat), vsz (mvd v olds news) = vsz v := by
  induction v using Val.ind with
  | hw s => intro olds news; rw [mvd]
  | hp r => intro olds news; rw [mvd, vsz, vsz]
  | hr vs ih => intro olds news; rw [mvd, vsz, vsz, mvdL_map, vszL_map fun v hv => ih v hv _ _]
  | hs ps ms ih => intro olds news; rw [mvd, vsz, vsz, mvdM_map, vszL_perm sortV_perm, vszL_map fun v hv => ih v hv _ _, List.length_map]
theorem depL_perm {a b : List Val} (h : a.Perm b) : depL a = depL b :=
  Nat.le_antisymm (depL_le fun v hv => dep_mem (h.mem_iff.mp hv)) (depL_le fun v hv => dep_mem (h.mem_iff.mpr hv))
theorem depL_map {vs : List Val} {f : Val → Val} (h : ∀ v ∈ vs, dep (f v) = dep v) : depL (vs.map f) = depL vs := by
  induction vs with
  | nil => rfl
  | cons u vs ih => rw [List.map_cons, depL, depL, h u List.mem_cons_self, ih fun v hv => h v (List.mem_cons_of_mem _ hv)]
theorem dep_mvd (v : Val) : ∀ (olds news : List Rat), dep (mvd v olds news) = dep v := by
  induction v using Val.ind with
  | hw s => intro olds news; rw [mvd]
  | hp r => intro olds news; rw [mvd, dep, dep]
  | hr vs ih => intro olds news; rw [mvd, dep, dep, mvdL_map, depL_map fun v hv => ih v hv _ _]
  | hs ps ms ih => intro olds news; rw [mvd, dep, dep, mvdM_map, depL_perm sortV_perm, depL_map fun v hv => ih v hv _ _]
theorem endsN_bits {olds news fur : List Rat} {k : Nat} (hk : 1 ≤ k) (hn : ∀ r ∈ news, bd k r) (hl : olds.length = news.length) (hf : fur.length ≤ 1000) : ∀ r ∈ endsN olds news fur, bd (2 * k + 12) r := fun r hr => by
  rcases endsN_mem.mp hr with h | h
  · exact (hn r h).mono (by omega)
  · unfold sprs at h
    obtain ⟨g, hg, h⟩ := List.mem_flatMap.mp h
    rw [List.mem_range] at hg
    exact bits_spr hk hn (by omega) (Nat.le_trans (List.length_filter_le _ _) hf) r h
theorem furth_len {ps : List Rat} {v : Val} : (furth ps v).length ≤ vsz v := Nat.le_trans (List.length_filter_le _ _) (supp_len v)
theorem BV_mvd {v : Val} : ∀ {olds news : List Rat} {k : Nat}, MvOk v olds news → 1 ≤ k → vsz v ≤ 1000 → (∀ r ∈ news, bd k r) → BV k (mvd v olds news) := by
  induction v using Val.ind with
  | hw s => intro olds news k h _ _ _; rw [mvd, BV]; trivial
  | hp r => intro olds news k h _ _ hn; rw [mvd, BV]; exact hn _ (lead_mem (h.sub r (by rw [supp]; exact List.mem_singleton.mpr rfl)) h.len)
  | hr vs ih =>
    intro olds news k h hk hz hn
    rw [mvd, BV, BVL_iff, mvdL_map]
    intro u hu
    obtain ⟨v, hv, rfl⟩ := List.mem_map.mp hu
    have := vsz_mem hv
    rw [vsz] at hz
    exact ih v hv (h.row v hv) hk (by omega) hn
  | hs ps ms ih =>
    intro olds news k h hk hz hn
    rw [mvd, BV, BVL_iff, mvdM_map]
    have led : ∀ r ∈ ps.map (lead olds news), bd k r := fun r hr => by
      obtain ⟨s, hs, rfl⟩ := List.mem_map.mp hr
      exact hn _ (lead_mem (h.sub s (by rw [supp]; exact hs)) h.len)
    refine ⟨led, fun u hu => ?_⟩
    obtain ⟨m, hm, rfl⟩ := List.mem_map.mp (sortV_perm.mem_iff.mp hu)
    have hz2 := vsz_mem hm
    rw [vsz] at hz
    exact ih m hm (h.set m hm) (by omega) (by omega) (endsN_bits hk led (by rw [List.length_map]) (Nat.le_trans furth_len (by omega)))
/-! ### placed -/
def plc (v : Val) (ps : List Rat) : Val := mvd v (endsO ps (furth ps v)) (endsN ps ps (furth ps v))
theorem EndsOk.plc {v : Val} {ps : List Rat} (h : WV v) (hp : Asc ps) : EndsOk ps ps (furth ps v) := ⟨hp, hp, rfl, furth_nodup h, furth_out⟩
theorem MvOk.plc {v : Val} {ps : List Rat} (h : WV v) (hp : Asc ps) : MvOk v (endsO ps (furth ps v)) (endsN ps ps (furth ps v)) := ⟨h, asc_asc, asc_asc, (EndsOk.plc h hp).len2, fun r hr => endsO_mem.mpr (furth_sub r hr)⟩
theorem WV_plc {v : Val} {ps : List Rat} (h : WV v) (hp : Asc ps) : WV (plc v ps) := WV_mvd (.plc h hp)
theorem BV_plc {v : Val} {ps : List Rat} {k : Nat} (h : WV v) (hp : Asc ps) (hk : 1 ≤ k) (hz : vsz v ≤ 1000) (hb : ∀ r ∈ ps, bd k r) : BV (2 * k + 12) (plc v ps) := BV_mvd (.plc h hp) (by omega) hz (endsN_bits hk hb rfl (Nat.le_trans furth_len hz))
theorem vsz_plc {v : Val} {ps : List Rat} : vsz (plc v ps) = vsz v := vsz_mvd _ _ _
theorem dep_plc {v : Val} {ps : List Rat} : dep (plc v ps) = dep v := dep_mvd _ _ _
end LawP

/-! LT: the terms of the laws own helpers (printed by gen.py). -/
namespace LawP
open L3
def e_l_point_1 : E := (.cmp .gt (.var 3) (.int 0))
def b_l_point_2 : Ss := (.cons (.par [] [2, 3] (.sh (.var 3) (.sh (.bin .mod (.bf .int (.cons (.var 2) .nil)) (.var 3)) .nil))) .nil)
def b_l_point : Ss := (.cons (.par [] [2, 3] (.sh (.bf .abs (.cons (.var 0) .nil)) (.sh (.var 1) .nil))) (.cons (.whl [] e_l_point_1 b_l_point_2) (.cons (.ret [] (.tup (.cons (.bin .fdv (.var 0) (.var 2)) (.cons (.bin .fdv (.var 1) (.var 2)) .nil)))) .nil)))
def b_l_draw_points_1 : Ss := (.cons (.set [] 5 (.bin .add (.int 1) (.call "_law_pick" (.cons (.var 0) (.cons (.int 3) .nil))))) (.cons (.app [] 2 (.call "_law_point" (.cons (.bin .add (.bin .mul (.var 3) (.var 5)) (.call "_law_pick" (.cons (.var 0) (.cons (.var 5) .nil)))) (.cons (.var 5) .nil)))) (.cons (.set [] 3 (.bin .add (.bin .add (.var 3) (.int 1)) (.call "_law_pick" (.cons (.var 0) (.cons (.int 2) .nil))))) .nil)))
def b_l_draw_points : Ss := (.cons (.par [] [2, 3] (.own (.lst .nil) (.sh (.bin .sub (.call "_law_pick" (.cons (.var 0) (.cons (.int 5) .nil))) (.int 2)) .nil))) (.cons (.for [] (.name 4) (.rng1 (.var 1)) b_l_draw_points_1) (.cons (.retOwn 2) .nil)))
def b_l_less : Ss := (.cons (.ret [] (.cmp .lt (.bin .mul (.ix (.var 0) (.int 0)) (.ix (.var 1) (.int 1))) (.bin .mul (.ix (.var 1) (.int 0)) (.ix (.var 0) (.int 1))))) .nil)
def e_l_ascending_1 : E := (.var 4)
def es_l_ascending_2 : Es := (.cons (.call "_law_less" (.cons (.var 4) (.cons (.var 2) .nil))) .nil)
def b_l_ascending_3 : Ss := (.cons (.ite [] (.cmp .notin (.var 2) (.var 1)) (.cons (.set [] 3 (.lc e_l_ascending_1 (.name 4) (.seq (.var 1)) es_l_ascending_2 [("_law_one", 4)])) (.cons (.set [] 1 (.bin .add (.bin .add (.var 3) (.lst (.cons (.var 2) .nil))) (.sl (.var 1) (.at (.bf .len (.cons (.var 3) .nil))) .no))) .nil)) .nil) .nil)
def b_l_ascending : Ss := (.cons (.set [] 1 (.lst .nil)) (.cons (.for [] (.name 2) (.seq (.var 0)) b_l_ascending_3) (.cons (.ret [] (.var 1)) .nil)))
def b_l_support_1 : Ss := (.cons (.set [] 1 (.bin .add (.var 1) (.call "_law_support" (.cons (.var 2) .nil)))) .nil)
def b_l_support : Ss := (.cons (.ite [] (.isi (.var 0) .str) (.cons (.ret [] (.lst .nil)) .nil) .nil) (.cons (.ite [] (.cmp .eq (.ix (.var 0) (.int 0)) (.str "set")) (.cons (.ret [] (.bf .list (.cons (.ix (.var 0) (.int 1)) .nil))) .nil) .nil) (.cons (.ite [] (.cmp .eq (.ix (.var 0) (.int 0)) (.str "row")) (.cons (.set [] 1 (.lst .nil)) (.cons (.for [] (.name 2) (.seq (.sl (.var 0) (.at (.int 1)) .no)) b_l_support_1) (.cons (.ret [] (.call "_law_ascending" (.cons (.var 1) .nil))) .nil))) .nil) (.cons (.ret [] (.lst (.cons (.var 0) .nil))) .nil))))
def e_l_gap_1 : E := (.var 2)
def es_l_gap_2 : Es := (.cons (.call "_law_less" (.cons (.var 2) (.cons (.var 1) .nil))) .nil)
def b_l_gap : Ss := (.cons (.ret [] (.bf .len (.cons (.lc e_l_gap_1 (.name 2) (.seq (.var 0)) es_l_gap_2 [("_law_one", 2)]) .nil))) .nil)
def e_l_spread_1 : E := (.call "_law_point" (.cons (.bin .add (.bin .mul (.bin .mul (.var 6) (.var 9)) (.bin .add (.var 2) (.int 1))) (.bin .mul (.bin .sub (.bin .mul (.var 8) (.var 7)) (.bin .mul (.var 6) (.var 9))) (.bin .add (.var 3) (.int 1)))) (.cons (.bin .mul (.bin .mul (.var 7) (.var 9)) (.bin .add (.var 2) (.int 1))) .nil)))
def e_l_spread_2 : E := (.call "_law_point" (.cons (.bin .add (.var 4) (.bin .mul (.bin .add (.var 3) (.int 1)) (.var 5))) (.cons (.var 5) .nil)))
def e_l_spread_3 : E := (.call "_law_point" (.cons (.bin .sub (.var 4) (.bin .mul (.bin .sub (.var 2) (.var 3)) (.var 5))) (.cons (.var 5) .nil)))
def e_l_spread_4 : E := (.tup (.cons (.var 3) (.cons (.int 1) .nil)))
def b_l_spread : Ss := (.cons (.ite [] (.cmp .eq (.bf .len (.cons (.var 0) .nil)) (.int 0)) (.cons (.ret [] (.lc e_l_spread_4 (.name 3) (.rng1 (.var 2)) .nil [("_law_i", 3)])) .nil) .nil) (.cons (.ite [] (.cmp .eq (.var 1) (.int 0)) (.cons (.asg [] (.tup [4, 5]) (.ix (.var 0) (.int 0))) (.cons (.ret [] (.lc e_l_spread_3 (.name 3) (.rng1 (.var 2)) .nil [("_law_i", 3)])) .nil)) .nil) (.cons (.ite [] (.cmp .eq (.var 1) (.bf .len (.cons (.var 0) .nil))) (.cons (.asg [] (.tup [4, 5]) (.ix (.var 0) (.bin .sub (.var 1) (.int 1)))) (.cons (.ret [] (.lc e_l_spread_2 (.name 3) (.rng1 (.var 2)) .nil [("_law_i", 3)])) .nil)) .nil) (.cons (.asg [] (.tup [6, 7]) (.ix (.var 0) (.bin .sub (.var 1) (.int 1)))) (.cons (.asg [] (.tup [8, 9]) (.ix (.var 0) (.var 1))) (.cons (.ret [] (.lc e_l_spread_1 (.name 3) (.rng1 (.var 2)) .nil [("_law_i", 3)])) .nil))))))
def e_l_ends_1 : E := (.var 6)
def es_l_ends_2 : Es := (.cons (.cmp .eq (.call "_law_gap" (.cons (.var 0) (.cons (.var 6) .nil))) (.var 4)) .nil)
def b_l_ends_3 : Ss := (.cons (.set [] 5 (.bf .len (.cons (.lc e_l_ends_1 (.name 6) (.seq (.var 2)) es_l_ends_2 [("_law_one", 6)]) .nil))) (.cons (.set [] 3 (.bin .add (.var 3) (.call "_law_spread" (.cons (.var 1) (.cons (.var 4) (.cons (.var 5) .nil)))))) .nil))
def b_l_ends : Ss := (.cons (.set [] 3 (.bf .list (.cons (.var 1) .nil))) (.cons (.for [] (.name 4) (.rng1 (.bin .add (.bf .len (.cons (.var 0) .nil)) (.int 1))) b_l_ends_3) (.cons (.ret [] (.tup (.cons (.call "_law_ascending" (.cons (.bin .add (.var 0) (.var 2)) .nil)) (.cons (.call "_law_ascending" (.cons (.var 3) .nil)) .nil)))) .nil)))
def e_l_text_1 : E := (.call "_law_text" (.cons (.var 2) .nil))
def e_l_text_2 : E := (.call "_law_text" (.cons (.var 2) .nil))
def e_l_text_3 : E := (.call "_law_text" (.cons (.var 2) .nil))
def b_l_text : Ss := (.cons (.ite [] (.isi (.var 0) .str) (.cons (.ret [] (.var 0)) .nil) .nil) (.cons (.ite [] (.cmp .eq (.ix (.var 0) (.int 0)) (.str "set")) (.cons (.set [] 1 (.join " " (.lc e_l_text_3 (.name 2) (.seq (.ix (.var 0) (.int 1))) .nil [("_law_one", 2)]))) (.cons (.ret [] (.bin .add (.bin .add (.bin .add (.bin .add (.str "{") (.var 1)) (.str "|")) (.join " " (.lc e_l_text_2 (.name 2) (.seq (.ix (.var 0) (.int 2))) .nil [("_law_one", 2)]))) (.str "}"))) .nil)) .nil) (.cons (.ite [] (.cmp .eq (.ix (.var 0) (.int 0)) (.str "row")) (.cons (.ret [] (.bin .add (.bin .add (.str "<") (.join " " (.lc e_l_text_1 (.name 2) (.seq (.sl (.var 0) (.at (.int 1)) .no)) .nil [("_law_one", 2)]))) (.str ">"))) .nil) .nil) (.cons (.ret [] (.ite (.cmp .eq (.ix (.var 0) (.int 1)) (.int 1)) (.bf .repr (.cons (.ix (.var 0) (.int 0)) .nil)) (.bin .add (.bin .add (.bf .repr (.cons (.ix (.var 0) (.int 0)) .nil)) (.str "/")) (.bf .repr (.cons (.ix (.var 0) (.int 1)) .nil))))) .nil))))
def e_l_moved_1 : E := (.var 6)
def es_l_moved_2 : Es := (.cons (.cmp .notin (.var 6) (.ix (.var 0) (.int 1))) .nil)
def b_l_moved_3 : Ss := (.cons (.set [] 8 (.lc e_l_moved_1 (.name 6) (.seq (.call "_law_support" (.cons (.var 7) .nil))) es_l_moved_2 [("_law_one", 6)])) (.cons (.set [] 9 (.call "_law_ends" (.cons (.bf .list (.cons (.ix (.var 0) (.int 1)) .nil)) (.cons (.var 4) (.cons (.var 8) .nil))))) (.cons (.app [] 5 (.call "_law_moved" (.cons (.var 7) (.cons (.ix (.var 9) (.int 0)) (.cons (.ix (.var 9) (.int 1)) .nil))))) .nil)))
def e_l_moved_4 : E := (.ix (.var 2) (.index (.var 1) (.var 6)))
def e_l_moved_5 : E := (.call "_law_moved" (.cons (.var 3) (.cons (.var 1) (.cons (.var 2) .nil))))
def b_l_moved : Ss := (.cons (.ite [] (.isi (.var 0) .str) (.cons (.ret [] (.var 0)) .nil) .nil) (.cons (.ite [] (.cmp .eq (.ix (.var 0) (.int 0)) (.str "row")) (.cons (.ret [] (.bin .add (.tup (.cons (.str "row") .nil)) (.bf .tuple (.cons (.lc e_l_moved_5 (.name 3) (.seq (.sl (.var 0) (.at (.int 1)) .no)) .nil [("_law_part", 3)]) .nil)))) .nil) .nil) (.cons (.ite [] (.cmp .ne (.ix (.var 0) (.int 0)) (.str "set")) (.cons (.ret [] (.ix (.var 2) (.index (.var 1) (.var 0)))) .nil) .nil) (.cons (.par [] [4, 5] (.sh (.lc e_l_moved_4 (.name 6) (.seq (.ix (.var 0) (.int 1))) .nil [("_law_one", 6)]) (.own (.lst .nil) .nil))) (.cons (.for [] (.name 7) (.seq (.ix (.var 0) (.int 2))) b_l_moved_3) (.cons (.ret [5] (.tup (.cons (.str "set") (.cons (.bf .tuple (.cons (.var 4) .nil)) (.cons (.bf .tuple (.cons (.sortk (.var 5) "_law_one" (.bf .str (.cons (.call "_law_text" (.cons (.var 0) .nil)) .nil))) .nil)) .nil))))) .nil))))))
def e_l_placed_1 : E := (.var 3)
def es_l_placed_2 : Es := (.cons (.cmp .notin (.var 3) (.var 1)) .nil)
def b_l_placed : Ss := (.cons (.set [] 2 (.lc e_l_placed_1 (.name 3) (.seq (.call "_law_support" (.cons (.var 0) .nil))) es_l_placed_2 [("_law_one", 3)])) (.cons (.asg [] (.tup [4, 5]) (.call "_law_ends" (.cons (.bf .list (.cons (.var 1) .nil)) (.cons (.bf .list (.cons (.var 1) .nil)) (.cons (.var 2) .nil))))) (.cons (.ret [] (.call "_law_moved" (.cons (.var 0) (.cons (.var 4) (.cons (.var 5) .nil))))) .nil)))
def b_l_bundle_1 : Ss := (.cons (.set [] 13 (.bin .add (.call "_law_spread" (.cons (.var 8) (.cons (.var 4) (.cons (.var 11) .nil)))) (.sl (.lst (.cons (.var 2) .nil)) .no (.at (.var 12))))) (.cons (.set [] 13 (.bin .add (.var 13) (.call "_law_spread" (.cons (.var 8) (.cons (.bin .add (.var 4) (.int 1)) (.cons (.bin .sub (.bin .sub (.bf .len (.cons (.var 6) .nil)) (.var 11)) (.var 12)) .nil)))))) (.cons (.set [] 14 (.call "_law_ascending" (.cons (.bin .add (.bin .add (.var 1) (.var 7)) (.var 13)) .nil))) (.cons (.app [] 9 (.call "_law_placed" (.cons (.call "_law_moved" (.cons (.var 0) (.cons (.var 10) (.cons (.var 14) .nil)))) (.cons (.var 8) .nil)))) .nil))))
def b_l_bundle_2 : Ss := (.cons (.for [] (.name 12) (.rng1 (.bin .add (.int 1) (.bf .int (.cons (.cmp .lt (.var 11) (.bf .len (.cons (.var 6) .nil))) .nil)))) b_l_bundle_1) .nil)
def e_l_bundle_3 : E := (.var 5)
def es_l_bundle_4 : Es := (.cons (.cmp .notin (.var 5) (.var 6)) .nil)
def e_l_bundle_5 : E := (.var 5)
def es_l_bundle_6 : Es := (.cons (.cmp .eq (.call "_law_gap" (.cons (.var 1) (.cons (.var 5) .nil))) (.var 4)) .nil)
def e_l_bundle_7 : E := (.var 5)
def es_l_bundle_8 : Es := (.cons (.cmp .notin (.var 5) (.var 1)) .nil)
def b_l_bundle : Ss := (.cons (.par [] [3, 4] (.sh (.lc e_l_bundle_7 (.name 5) (.seq (.call "_law_support" (.cons (.var 0) .nil))) es_l_bundle_8 [("_law_one", 5)]) (.sh (.call "_law_gap" (.cons (.var 1) (.cons (.var 2) .nil))) .nil))) (.cons (.set [] 6 (.lc e_l_bundle_5 (.name 5) (.seq (.var 3)) es_l_bundle_6 [("_law_one", 5)])) (.cons (.par [] [7, 8, 9] (.sh (.lc e_l_bundle_3 (.name 5) (.seq (.var 3)) es_l_bundle_4 [("_law_one", 5)]) (.sh (.call "_law_ascending" (.cons (.bin .add (.var 1) (.lst (.cons (.var 2) .nil))) .nil)) (.own (.lst .nil) .nil)))) (.cons (.set [] 10 (.call "_law_ascending" (.cons (.bin .add (.var 1) (.var 3)) .nil))) (.cons (.for [] (.name 11) (.rng1 (.bin .add (.bf .len (.cons (.var 6) .nil)) (.int 1))) b_l_bundle_2) (.cons (.retOwn 9) .nil))))))
def e_l_made_1 : E := (.cmp .in_ (.var 7) (.var 2))
def e_l_made_2 : E := (.bf .all (.cons (.lc e_l_made_1 (.name 7) (.seq (.call "_law_bundle" (.cons (.var 8) (.cons (.var 6) (.cons (.var 5) .nil))))) .nil [("_law_one", 7)]) .nil))
def b_l_made_3 : Ss := (.cons (.set [] 4 (.call "_law_placed" (.cons (.var 8) (.cons (.var 6) .nil)))) (.cons (.set [] 9 (.ite (.cmp .in_ (.var 4) (.var 9)) (.var 9) (.bin .add (.var 9) (.lst (.cons (.var 4) .nil))))) .nil))
def e_l_made_4 : E := (.var 7)
def es_l_made_5 : Es := (.cons (.cmp .ne (.var 7) (.var 5)) .nil)
def b_l_made_6 : Ss := (.cons (.set [] 6 (.lc e_l_made_4 (.name 7) (.seq (.var 0)) es_l_made_5 [("_law_one", 7)])) (.cons (.ite [] (.bf .all (.cons (.lc e_l_made_2 (.name 8) (.seq (.var 2)) .nil [("_law_member", 8)]) .nil)) (.cons (.par [] [0, 9] (.sh (.var 6) (.sh (.lst .nil) .nil))) (.cons (.for [] (.name 8) (.seq (.var 2)) b_l_made_3) (.cons (.set [] 2 (.var 9)) .nil))) .nil) .nil))
def b_l_made_7 : Ss := (.cons (.set [] 4 (.call "_law_placed" (.cons (.var 3) (.cons (.var 0) .nil)))) (.cons (.set [] 2 (.ite (.cmp .in_ (.var 4) (.var 2)) (.var 2) (.bin .add (.var 2) (.lst (.cons (.var 4) .nil))))) .nil))
def b_l_made : Ss := (.cons (.par [] [0, 2] (.sh (.bf .list (.cons (.var 0) .nil)) (.sh (.lst .nil) .nil))) (.cons (.for [] (.name 3) (.seq (.var 1)) b_l_made_7) (.cons (.for [] (.name 5) (.seq (.bf .list (.cons (.var 0) .nil))) b_l_made_6) (.cons (.ret [] (.tup (.cons (.str "set") (.cons (.bf .tuple (.cons (.var 0) .nil)) (.cons (.bf .tuple (.cons (.sortk (.var 2) "_law_one" (.bf .str (.cons (.call "_law_text" (.cons (.var 0) .nil)) .nil))) .nil)) .nil))))) .nil))))
def e_l_draw_set_1 : E := (.call "_law_draw_value" (.cons (.var 0) (.cons (.var 1) (.cons (.bin .sub (.var 2) (.int 1)) .nil))))
def e_l_draw_set_2 : E := (.ix (.var 1) (.call "_law_pick" (.cons (.var 0) (.cons (.bf .len (.cons (.var 1) .nil)) .nil))))
def b_l_draw_set : Ss := (.cons (.set [] 4 (.call "_law_ascending" (.cons (.lc e_l_draw_set_2 (.name 5) (.rng1 (.call "_law_pick" (.cons (.var 0) (.cons (.int 3) .nil)))) .nil [("_law_lap", 5)]) .nil))) (.cons (.ret [] (.call "_law_made" (.cons (.var 4) (.cons (.lc e_l_draw_set_1 (.name 5) (.rng1 (.call "_law_pick" (.cons (.var 0) (.cons (.bin .add (.var 3) (.int 1)) .nil)))) .nil [("_law_lap", 5)]) .nil)))) .nil))
def e_l_draw_value_1 : E := (.call "_law_draw_value" (.cons (.var 0) (.cons (.var 1) (.cons (.bin .sub (.var 2) (.int 1)) .nil))))
def b_l_draw_value : Ss := (.cons (.set [] 3 (.call "_law_pick" (.cons (.var 0) (.cons (.ite (.cmp .gt (.var 2) (.int 0)) (.int 7) (.int 4)) .nil)))) (.cons (.ite [] (.cmp .eq (.var 3) (.int 0)) (.cons (.ret [] (.ix (.lst (.cons (.str "a") (.cons (.str "b") (.cons (.str "row") .nil)))) (.call "_law_pick" (.cons (.var 0) (.cons (.int 3) .nil))))) .nil) .nil) (.cons (.ite [] (.cmp .lt (.var 3) (.int 4)) (.cons (.ret [] (.ix (.var 1) (.call "_law_pick" (.cons (.var 0) (.cons (.bf .len (.cons (.var 1) .nil)) .nil))))) .nil) .nil) (.cons (.ite [] (.cmp .lt (.var 3) (.int 6)) (.cons (.ret [] (.bin .add (.tup (.cons (.str "row") .nil)) (.bf .tuple (.cons (.lc e_l_draw_value_1 (.name 4) (.rng1 (.bin .add (.int 1) (.call "_law_pick" (.cons (.var 0) (.cons (.int 3) .nil))))) .nil [("_law_lap", 4)]) .nil)))) .nil) .nil) (.cons (.ret [] (.call "_law_draw_set" (.cons (.var 0) (.cons (.var 1) (.cons (.var 2) (.cons (.int 2) .nil)))))) .nil)))))
end LawP

/-! LG: a value that is placed keeps its gaps. -/
namespace LawP
open PySem PySem.Spec PyProof.Rows L2 L3

theorem idx_gap {r : Rat} : ∀ {os : List Rat}, Asc os → r ∈ os → os.idxOf r = gapn os r
  | [], _, h => nomatch h
  | a :: os, h, hr => by
    obtain ⟨h1, h2⟩ := List.pairwise_cons.mp h
    by_cases e : a = r
    · subst e
      rw [List.idxOf_cons_self]
      unfold gapn
      rw [List.filter_cons_of_neg (by simpa using Rat.lt_irrefl), List.filter_eq_nil_iff.mpr fun x hx z => ?_]
      · rfl
      · have z : x < a := by simpa using z
        exact Rat.lt_irrefl (Std.lt_trans z (h1 x hx))
    · have hr2 : r ∈ os := (List.mem_cons.mp hr).resolve_left fun z => e z.symm
      rw [List.idxOf_cons, show (a == r) = false by simpa using e, cond_false, idx_gap h2 hr2]
      unfold gapn
      rw [List.filter_cons_of_pos (by simpa using h1 r hr2), List.length_cons]
theorem gapn_app {a b : List Rat} {x : Rat} : gapn (a ++ b) x = gapn a x + gapn b x := by
  unfold gapn
  rw [List.filter_append, List.length_append]
theorem gapn_permG {a b : List Rat} (h : a.Perm b) (x : Rat) : gapn a x = gapn b x := (h.filter _).length_eq
theorem asc_permG {l : List Rat} (h : l.Nodup) : (asc l).Perm l := (List.perm_ext_iff_of_nodup asc_asc.nodup h).mpr fun _ => asc_mem
/-- below a point of ps is what lies in a gap at most its own -/
theorem below_at {ps : List Rat} {p f : Rat} (hp : p ∈ ps) (hf : f ∉ ps) : f < p ↔ gapn ps f ≤ gapn ps p := by
  have mono : ∀ {x y : Rat}, x ≤ y → gapn ps x ≤ gapn ps y := fun {x y} h => by
    unfold gapn
    clear hp hf
    induction ps with
    | nil => exact Nat.le_refl _
    | cons q qs ih =>
      by_cases h1 : q < x
      · have h2 : q < y := Std.lt_of_lt_of_le h1 h
        rw [List.filter_cons_of_pos (by simpa using h1), List.filter_cons_of_pos (by simpa using h2), List.length_cons, List.length_cons]
        omega
      · rw [List.filter_cons_of_neg (by simpa using h1)]
        by_cases h2 : q < y
        · rw [List.filter_cons_of_pos (by simpa using h2), List.length_cons]; omega
        · rw [List.filter_cons_of_neg (by simpa using h2)]; exact ih
  have strict : ∀ {f : Rat}, p < f → gapn ps p < gapn ps f := fun {f} h => by
    unfold gapn
    clear hf mono
    induction ps with
    | nil => cases hp
    | cons q qs ih =>
      have le : ∀ l : List Rat, (l.filter fun r => decide (r < p)).length ≤ (l.filter fun r => decide (r < f)).length := fun l => by
        induction l with
        | nil => exact Nat.le_refl _
        | cons a l il =>
          by_cases h1 : a < p
          · have h2 : a < f := Std.lt_trans h1 h
            rw [List.filter_cons_of_pos (by simpa using h1), List.filter_cons_of_pos (by simpa using h2), List.length_cons, List.length_cons]
            omega
          · rw [List.filter_cons_of_neg (by simpa using h1)]
            by_cases h2 : a < f
            · rw [List.filter_cons_of_pos (by simpa using h2), List.length_cons]; omega
            · rw [List.filter_cons_of_neg (by simpa using h2)]; exact il
      have lq := le qs
      rcases List.mem_cons.mp hp with e | hp2
      · subst e
        rw [List.filter_cons_of_neg (by simpa using Rat.lt_irrefl), List.filter_cons_of_pos (by simpa using h), List.length_cons]
        omega
      · have := ih hp2
        by_cases h1 : q < p
        · have h2 : q < f := Std.lt_trans h1 h
          rw [List.filter_cons_of_pos (by simpa using h1), List.filter_cons_of_pos (by simpa using h2), List.length_cons, List.length_cons]
          omega
        · rw [List.filter_cons_of_neg (by simpa using h1)]
          by_cases h2 : q < f
          · rw [List.filter_cons_of_pos (by simpa using h2), List.length_cons]; omega
          · rw [List.filter_cons_of_neg (by simpa using h2)]; exact this
  constructor
  · intro h; exact mono (Rat.le_of_lt h)
  · intro h
    refine Classical.byContradiction fun z => ?_
    have h1 : p < f := by
      have : f ≠ p := fun e => hf (e ▸ hp)
      grind
    have := strict h1
    omega
theorem sum_eq {α : Type} {f g : α → Nat} : ∀ {l : List α}, (∀ x ∈ l, f x = g x) → (l.map f).sum = (l.map g).sum
  | [], _ => rfl
  | x :: l, h => by rw [List.map_cons, List.map_cons, List.sum_cons, List.sum_cons, h x List.mem_cons_self, sum_eq fun y hy => h y (List.mem_cons_of_mem _ hy)]
section
variable {ps : List Rat} {fur : List Rat}
theorem len_flat {m : Nat} {P : Rat → Bool} {F : Nat → List Rat} : ((List.range m).flatMap F |>.filter P).length = ((List.range m).map fun g => ((F g).filter P).length).sum := by
  have : ∀ l : List Nat, ((l.flatMap F).filter P).length = (l.map fun g => ((F g).filter P).length).sum := fun l => by
    induction l with
    | nil => rfl
    | cons a l ih => rw [List.flatMap_cons, List.filter_append, List.length_append, ih, List.map_cons, List.sum_cons]
  exact this _
/-- spread points and the ones they stand for lie in the same gaps -/
theorem same_gaps (hp : Asc ps) (hf : ∀ x ∈ fur, x ∉ ps) (P : Nat → Bool) :
    ((sprs ps ps fur (ps.length + 1)).filter fun x => P (gapn ps x)).length = (fur.filter fun x => P (gapn ps x)).length := by
  have h1 := sum_filt (c := gapn ps) (m := ps.length + 1) (xs := fur.filter fun x => P (gapn ps x)) fun x _ => by have := gapn_le (ps := ps) (x := x); omega
  rw [← h1]
  unfold sprs
  rw [len_flat]
  refine sum_eq fun g hg => ?_
  have hg := List.mem_range.mp hg
  rw [List.filter_filter]
  by_cases hP : P g = true
  · rw [List.filter_eq_self.mpr fun x hx => ?_]
    · rw [spr_len]
      refine congrArg List.length (List.filter_congr fun x _ => ?_)
      by_cases e : gapn ps x = g
      · simp [e, hP]
      · simp [e]
    · rw [(gap_spr hp (by omega) x hx).2]; exact hP
  · rw [List.filter_eq_nil_iff.mpr fun x hx z => ?_, List.filter_eq_nil_iff.mpr fun x _ z => ?_]
    · rw [Bool.and_eq_true, decide_eq_true_eq] at z
      rw [z.1] at z
      exact hP z.2
    · rw [(gap_spr hp (by omega) x hx).2] at z
      exact hP z
theorem lead_self (hp : Asc ps) (hn : fur.Nodup) (hf : ∀ x ∈ fur, x ∉ ps) {p : Rat} (h : p ∈ ps) : lead (endsO ps fur) (endsN ps ps fur) p = p := by
  have ok : EndsOk ps ps fur := ⟨hp, hp, rfl, hn, hf⟩
  have nO : (ps ++ fur).Nodup := List.nodup_append.mpr ⟨hp.nodup, hn, fun a ha b hb e => hf b hb (e ▸ ha)⟩
  have nN : (ps ++ sprs ps ps fur (ps.length + 1)).Nodup := List.nodup_append.mpr ⟨hp.nodup, sprs_nodup hp (Nat.le_refl _), fun a ha b hb e => (sprs_at hp (Nat.le_refl _) hb).1 (e ▸ ha)⟩
  have iO : p ∈ endsO ps fur := endsO_mem.mpr (.inl h)
  have iN : p ∈ endsN ps ps fur := endsN_mem.mpr (.inl h)
  have e1 : gapn (endsO ps fur) p = gapn ps p + gapn fur p := by
    unfold endsO
    rw [gapn_permG (asc_permG nO), gapn_app]
  have e2 : gapn (endsN ps ps fur) p = gapn ps p + gapn (sprs ps ps fur (ps.length + 1)) p := by
    unfold endsN
    rw [gapn_permG (asc_permG nN), gapn_app]
  have e3 : gapn fur p = (fur.filter fun x => decide (gapn ps x ≤ gapn ps p)).length := by
    refine congrArg List.length (List.filter_congr fun x hx => ?_)
    rw [decide_eq_decide]; exact below_at h (hf x hx)
  have e4 : gapn (sprs ps ps fur (ps.length + 1)) p = ((sprs ps ps fur (ps.length + 1)).filter fun x => decide (gapn ps x ≤ gapn ps p)).length := by
    refine congrArg List.length (List.filter_congr fun x hx => ?_)
    rw [decide_eq_decide]; exact below_at h (sprs_at hp (Nat.le_refl _) hx).1
  have e5 : gapn (endsO ps fur) p = gapn (endsN ps ps fur) p := by
    rw [e1, e2, e3, e4, same_gaps hp hf fun g => decide (g ≤ gapn ps p)]
  have a1 := lead_at iO ok.len2
  rw [show (endsO ps fur).idxOf p = gapn (endsO ps fur) p from idx_gap asc_asc iO, e5, ← show (endsN ps ps fur).idxOf p = gapn (endsN ps ps fur) p from idx_gap asc_asc iN] at a1
  have a2 : (endsN ps ps fur)[(endsN ps ps fur).idxOf p]? = some p := by
    rw [List.getElem?_eq_getElem (List.idxOf_lt_length_of_mem iN), List.getElem_idxOf]
  rw [a2] at a1
  exact (Option.some.inj a1).symm
theorem lead_gap (hp : Asc ps) (hn : fur.Nodup) (hf : ∀ x ∈ fur, x ∉ ps) {r : Rat} (h : r ∈ endsO ps fur) :
    (lead (endsO ps fur) (endsN ps ps fur) r ∈ ps ↔ r ∈ ps) ∧ gapn ps (lead (endsO ps fur) (endsN ps ps fur) r) = gapn ps r := by
  have ok : EndsOk ps ps fur := ⟨hp, hp, rfl, hn, hf⟩
  have lt : ∀ {a b : Rat}, a ∈ endsO ps fur → b ∈ endsO ps fur → a < b → lead (endsO ps fur) (endsN ps ps fur) a < lead (endsO ps fur) (endsN ps ps fur) b := fun ha hb h => lead_lt asc_asc asc_asc ok.len2 ha hb h
  have inO : ∀ {p : Rat}, p ∈ ps → p ∈ endsO ps fur := fun h => endsO_mem.mpr (.inl h)
  have iff : ∀ {p : Rat}, p ∈ ps → (p < lead (endsO ps fur) (endsN ps ps fur) r ↔ p < r) := fun {p} hpp => by
    have e := lead_self hp hn hf hpp
    constructor
    · intro z
      refine Classical.byContradiction fun q => ?_
      by_cases e2 : r = p
      · rw [e2, e] at z; exact Rat.lt_irrefl z
      · have q2 : r < p := by grind
        have := lt h (inO hpp) q2
        rw [e] at this
        exact Rat.lt_irrefl (Std.lt_trans z this)
    · intro z
      have := lt (inO hpp) h z
      rw [e] at this
      exact this
  refine ⟨⟨fun z => ?_, fun z => by rw [lead_self hp hn hf z]; exact z⟩, ?_⟩
  · have e := lead_self hp hn hf z
    refine Classical.byContradiction fun q => ?_
    have ne : r ≠ lead (endsO ps fur) (endsN ps ps fur) r := fun e2 => q (e2 ▸ z)
    have tri : r < lead (endsO ps fur) (endsN ps ps fur) r ∨ lead (endsO ps fur) (endsN ps ps fur) r < r := by grind
    rcases tri with c | c
    · have := lt h (inO z) c
      rw [e] at this
      exact Rat.lt_irrefl this
    · have := lt (inO z) h c
      rw [e] at this
      exact Rat.lt_irrefl this
  · refine congrArg List.length (List.filter_congr fun x hx => ?_)
    rw [decide_eq_decide]; exact iff hx
end
/-- the points of v that are not among ps, by their gaps -/
theorem plc_gaps {v : Val} {ps : List Rat} (hw : WV v) (hp : Asc ps) (g : Nat) :
    ((supp (plc v ps)).filter fun r => !decide (r ∈ ps) && decide (gapn ps r = g)).length = ((supp v).filter fun r => !decide (r ∈ ps) && decide (gapn ps r = g)).length := by
  unfold plc
  rw [supp_mvd (.plc hw hp), List.filter_map, List.length_map]
  refine congrArg List.length (List.filter_congr fun x hx => ?_)
  obtain ⟨h1, h2⟩ := lead_gap hp (furth_nodup hw) furth_out (endsO_mem.mpr (furth_sub x hx))
  simp only [Function.comp]
  rw [h2]
  congr 2
  rw [decide_eq_decide]
  exact h1
end LawP

/-! LW1: words of the laws' own helpers: points, ascending ones, gaps, spread places. -/
namespace LawP
open PySem PySem.Spec PyProof.Rows L2 L3

def sp_point : VSp := fun ds Q _ => ∃ p q : Int, ds = [.int p, .int q] ∧ 0 < q ∧ p.natAbs < 2 ^ 1000 ∧ q.natAbs < 2 ^ 1000 ∧ Q (rT (mkRat p q.toNat))
def sp_less : VSp := fun ds Q _ => ∃ r s : Rat, ds = [rT r, rT s] ∧ bd 1000 r ∧ bd 1000 s ∧ Q (.bl (decide (r < s)))
theorem ws_l_point {G : Gt} (ds : List T) (Q : T → Prop) (E : Ex → Prop) (h : sp_point ds Q E) : wSs G b_l_point (L3.startT ["_law_p", "_law_q", "_law_a", "_law_b"] ds) (endsOf 0 Q E) := by
  obtain ⟨p, q, rfl, h0, h1, h2, h3⟩ := h
  simp only [b_l_point, wSs, wS, w, mk, bOf, wEs, wXs, wP, wI, wIfs, wAnd, wOr, rd, L3.startT, frz, frz1, List.foldl, List.map, List.length, endsOf, List.cons_append, List.nil_append, List.replicate, List.set, Co.w, Bo.w, Bf.w, wCmp, wGcd, wFdv, wNeg, wMul, wAdd, wSub, wMod, wPar, Ms.fl, wMs, setM, Tg.w, wTup_cons, wTup_nil, wLcE, wF, List.getElem?_cons_zero, List.getElem?_cons_succ, List.set_cons_zero, List.set_cons_succ, Nat.reduceSub, Nat.reduceAdd, List.length_cons, List.length_nil, List.map_cons, List.map_nil, List.foldl_nil, List.replicate_succ, List.replicate_zero, Nat.reduceEqDiff, if_false, if_true, T.bl.injEq, T.int.injEq, T.str.injEq, T.tup.injEq, T.lst.injEq, exists_eq_left', true_or, and_true, true_and, reduceCtorEq, reduceIte, decide_eq_true_eq, seqT, Option.some.injEq, wipeT, wRev, wSl, false_or, or_true, bneF, bneT, Int.toNat_natCast, okB_int, okB_non, okB_rT, okB_rTs, okB_rTt, ownL, wLt, wIn, inT_rTs, okE_int, okE_str, okE_rT, okE_rTs, okE_rTt, okE_nil, tyIs, wListF, wCatF, timesT, wZip]
  have hg : (0 : Int) < ((p.natAbs.gcd q.natAbs : Nat) : Int) := by
    have : 0 < p.natAbs.gcd q.natAbs := Nat.gcd_pos_of_pos_right _ (by omega)
    omega
  have hd : ∀ i : Int, CDivW i ((p.natAbs.gcd q.natAbs : Nat) : Int) := fun i => wide_div hg (b := 1000) (by
    rw [Int.natAbs_natCast]
    exact Nat.lt_of_le_of_lt (Nat.gcd_le_right _ (by omega)) h2) (by decide) (by decide)
  have e1 : (if p < 0 then -p else p) = (p.natAbs : Int) := by split <;> omega
  refine wWhile_inv (fun m ρ => ∃ a b : Nat, ρ = [.sh (.int p), .sh (.int q), .sh (.int a), .sh (.int b)] ∧ m = b ∧ Nat.gcd a b = p.natAbs.gcd q.natAbs) (m := q.natAbs) ⟨p.natAbs, q.natAbs, by rw [e1]; congr; omega, rfl, rfl⟩ ?_
  rintro m ρ K ⟨a, b, rfl, rfl, hab⟩ hK
  simp only [e_l_point_1, b_l_point_2, wSs, wS, w, mk, bOf, wEs, wXs, wP, wI, wIfs, wAnd, wOr, rd, L3.startT, frz, frz1, List.foldl, List.map, List.length, endsOf, List.cons_append, List.nil_append, List.replicate, List.set, Co.w, Bo.w, Bf.w, wCmp, wGcd, wFdv, wNeg, wMul, wAdd, wSub, wMod, wPar, Ms.fl, wMs, setM, Tg.w, wTup_cons, wTup_nil, wLcE, wF, List.getElem?_cons_zero, List.getElem?_cons_succ, List.set_cons_zero, List.set_cons_succ, Nat.reduceSub, Nat.reduceAdd, List.length_cons, List.length_nil, List.map_cons, List.map_nil, List.foldl_nil, List.replicate_succ, List.replicate_zero, Nat.reduceEqDiff, if_false, if_true, T.bl.injEq, T.int.injEq, T.str.injEq, T.tup.injEq, T.lst.injEq, exists_eq_left', true_or, and_true, true_and, reduceCtorEq, reduceIte, decide_eq_true_eq, seqT, Option.some.injEq, wipeT, wRev, wSl, false_or, or_true, bneF, bneT, Int.toNat_natCast, okB_int, okB_non, okB_rT, okB_rTs, okB_rTt, ownL, wLt, wIn, inT_rTs, okE_int, okE_str, okE_rT, okE_rTs, okE_rTt, okE_nil, tyIs, wListF, wCatF, timesT, wZip]
  by_cases h0' : m = 0
  · subst h0'
    rw [if_neg (by simp)]
    rw [Nat.gcd_zero_right] at hab
    rw [hab]
    refine ⟨hd _, hd _, by decide, ?_⟩
    rw [← rT_mk h0]
    exact h3
  · rw [if_pos (by omega)]
    have hm : a % m < m := Nat.mod_lt _ (by omega)
    refine ⟨by omega, hK (a % m) _ hm ⟨m, a % m, ?_, rfl, ?_⟩⟩
    · rw [Int.natCast_emod]
    · rw [← hab, Nat.gcd_comm m, ← Nat.gcd_rec, Nat.gcd_comm]
theorem ws_l_less {G : Gt} (ds : List T) (Q : T → Prop) (E : Ex → Prop) (h : sp_less ds Q E) : wSs G b_l_less (L3.startT ["_law_one", "_law_other"] ds) (endsOf 0 Q E) := by
  obtain ⟨r, s, rfl, h0, h1, h2⟩ := h
  simp only [b_l_less, wIx, rT, at0, at1, wLt, wSs, wS, w, mk, bOf, wEs, wXs, wP, wI, wIfs, wAnd, wOr, rd, L3.startT, frz, frz1, List.foldl, List.map, List.length, endsOf, List.cons_append, List.nil_append, List.replicate, List.set, Co.w, Bo.w, Bf.w, wCmp, wGcd, wFdv, wNeg, wMul, wAdd, wSub, wMod, wPar, Ms.fl, wMs, setM, Tg.w, wTup_cons, wTup_nil, wLcE, wF, List.getElem?_cons_zero, List.getElem?_cons_succ, List.set_cons_zero, List.set_cons_succ, Nat.reduceSub, Nat.reduceAdd, List.length_cons, List.length_nil, List.map_cons, List.map_nil, List.foldl_nil, List.replicate_succ, List.replicate_zero, Nat.reduceEqDiff, if_false, if_true, T.bl.injEq, T.int.injEq, T.str.injEq, T.tup.injEq, T.lst.injEq, exists_eq_left', true_or, and_true, true_and, reduceCtorEq, reduceIte, decide_eq_true_eq, seqT, Option.some.injEq, wipeT, wRev, wSl, false_or, or_true, bneF, bneT, Int.toNat_natCast, okB_int, okB_non, okB_rT, okB_rTs, okB_rTt, ownL, wLt, wIn, inT_rTs, okE_int, okE_str, okE_rT, okE_rTs, okE_rTt, okE_nil, tyIs, wListF, wCatF, timesT, wZip]
  rw [show decide (r < s) = decide (r.num * (s.den : Int) < s.num * (r.den : Int)) from decide_eq_decide.mpr (Rat.lt_iff r s)] at h2
  exact ⟨bd.cmul (k := 1000) h0.1 h1.2 (by decide) (by decide), bd.cmul (k := 1000) h1.1 h0.2 (by decide) (by decide), h2⟩
/-! ### cuts -/
theorem cut_from {xs : List T} {i : Nat} : cutT xs (some (i : Int)) none = xs.drop i := by
  have e1 : HT.sIx xs.length 0 (some (i : Int)) = min i xs.length := HT.sIx_nat _ _ _
  have e2 : HT.sIx xs.length xs.length none = xs.length := rfl
  unfold cutT
  rw [e1, e2]
  have e3 : xs.drop (min i xs.length) = xs.drop i := by
    rcases Nat.le_total i xs.length with h | h
    · rw [Nat.min_eq_left h]
    · rw [Nat.min_eq_right h, List.drop_length, List.drop_of_length_le h]
  rw [e3]
  exact List.take_of_length_le (by rw [List.length_drop]; omega)
/-! ### ascending -/
def sp_asc : VSp := fun ds Q _ => ∃ rs : List Rat, ds = [.lst (rs.map rT)] ∧ (∀ r ∈ rs, bd 1000 r) ∧ rs.length ≤ 5000 ∧ Q (.lst ((asc rs).map rT))
theorem small5000 {n : Nat} (h : n ≤ 20000) : n < sizeLine := by rw [sizeLine_eq]; omega
theorem ws_l_asc {G : Gt} (h1 : G "_law_less" = some ⟨2, 0, sp_less⟩) (ds : List T) (Q : T → Prop) (E : Ex → Prop) (h : sp_asc ds Q E) : wSs G b_l_ascending (L3.startT ["_law_some", "_law_found", "_law_point_here", "_law_low", "_law_one"] ds) (endsOf 0 Q E) := by
  obtain ⟨rs, rfl, hb, hl, q⟩ := h
  simp only [b_l_ascending, wSs, wS, w, mk, bOf, wEs, wXs, wP, wI, wIfs, wAnd, wOr, rd, L3.startT, frz, frz1, List.foldl, List.map, List.length, endsOf, List.cons_append, List.nil_append, List.replicate, List.set, Co.w, Bo.w, Bf.w, wCmp, wGcd, wFdv, wNeg, wMul, wAdd, wSub, wMod, wPar, Ms.fl, wMs, setM, Tg.w, wTup_cons, wTup_nil, wLcE, wF, List.getElem?_cons_zero, List.getElem?_cons_succ, List.set_cons_zero, List.set_cons_succ, Nat.reduceSub, Nat.reduceAdd, List.length_cons, List.length_nil, List.map_cons, List.map_nil, List.foldl_nil, List.replicate_succ, List.replicate_zero, Nat.reduceEqDiff, if_false, if_true, T.bl.injEq, T.int.injEq, T.str.injEq, T.tup.injEq, T.lst.injEq, exists_eq_left', true_or, and_true, true_and, reduceCtorEq, reduceIte, decide_eq_true_eq, seqT, Option.some.injEq, wipeT, wRev, wSl, false_or, or_true, bneF, bneT, Int.toNat_natCast, okB_int, okB_non, okB_rT, okB_rTs, okB_rTt, ownL, wLt, wIn, inT_rTs, okE_int, okE_str, okE_rT, okE_rTs, okE_rTt, okE_nil, tyIs, wListF, wCatF, timesT, wZip]
  refine ⟨Nat.zero_le _, ?_⟩
  refine wFor_inv (fun i ρ => ∃ x2 x3 x4, ρ = [.sh (.lst (rs.map rT)), .sh (.lst (((rs.take i).foldl ins []).map rT)), x2, x3, x4]) ⟨_, _, _, rfl⟩ ?_ ?_
  · rintro i d ρ K hd ⟨x2, x3, x4, rfl⟩ hK
    rw [List.getElem?_map] at hd
    obtain ⟨r, hr, rfl⟩ := Option.map_eq_some_iff.mp hd
    have ht : rs.take (i + 1) = rs.take i ++ [r] := by rw [List.take_add_one, hr]; rfl
    have hK' : ∀ x2 x3 x4, K [.sh (.lst (rs.map rT)), .sh (.lst ((ins ((rs.take i).foldl ins []) r).map rT)), x2, x3, x4] := fun x2 x3 x4 => hK _ ⟨x2, x3, x4, by rw [ht, List.foldl_append]; rfl⟩
    generalize hacc : (rs.take i).foldl ins [] = acc at *
    have hal : acc.length ≤ 5000 := by
      have := fold_len_le (l := rs.take i) (acc := [])
      rw [hacc, List.length_take] at this
      simp at this
      omega
    have hab : ∀ x ∈ acc, bd 1000 x := fun x hx => by
      have := ((fold_asc (l := rs.take i) (acc := []) .nil).2 x).mp (by rw [hacc]; exact hx)
      rcases this with z | z
      · cases z
      · exact hb x (List.mem_of_mem_take z)
    simp only [b_l_ascending_3, wSs, wS, w, mk, bOf, wEs, wXs, wP, wI, wIfs, wAnd, wOr, rd, L3.startT, frz, frz1, List.foldl, List.map, List.length, endsOf, List.cons_append, List.nil_append, List.replicate, List.set, Co.w, Bo.w, Bf.w, wCmp, wGcd, wFdv, wNeg, wMul, wAdd, wSub, wMod, wPar, Ms.fl, wMs, setM, Tg.w, wTup_cons, wTup_nil, wLcE, wF, List.getElem?_cons_zero, List.getElem?_cons_succ, List.set_cons_zero, List.set_cons_succ, Nat.reduceSub, Nat.reduceAdd, List.length_cons, List.length_nil, List.map_cons, List.map_nil, List.foldl_nil, List.replicate_succ, List.replicate_zero, Nat.reduceEqDiff, if_false, if_true, T.bl.injEq, T.int.injEq, T.str.injEq, T.tup.injEq, T.lst.injEq, exists_eq_left', true_or, and_true, true_and, reduceCtorEq, reduceIte, decide_eq_true_eq, seqT, Option.some.injEq, wipeT, wRev, wSl, false_or, or_true, bneF, bneT, Int.toNat_natCast, okB_int, okB_non, okB_rT, okB_rTs, okB_rTt, ownL, wLt, wIn, inT_rTs, okE_int, okE_str, okE_rT, okE_rTs, okE_rTt, okE_nil, tyIs, wListF, wCatF, timesT, wZip]
    by_cases hx : r ∈ acc
    · have e : ins acc r = acc := if_pos hx
      rw [e] at hK'
      simpa [hx] using hK' _ _ _
    · have e : ins acc r = acc.filter (fun z => decide (z < r)) ++ [r] ++ acc.drop (acc.filter fun z => decide (z < r)).length := if_neg hx
      simp only [hx, decide_false, Bool.not_false, if_true]
      refine wLc_over (f0 := rT) (p := fun z => decide (z < r)) (F := rT) acc [] (by rw [List.length_nil, Nat.zero_add]; exact small5000 (by omega)) (fun z hz KK K' N k1 k2 => ?_) ?_
      · simp only [e_l_ascending_1, es_l_ascending_2, wCall_of h1, wSs, wS, w, mk, bOf, wEs, wXs, wP, wI, wIfs, wAnd, wOr, rd, L3.startT, frz, frz1, List.foldl, List.map, List.length, endsOf, List.cons_append, List.nil_append, List.replicate, List.set, Co.w, Bo.w, Bf.w, wCmp, wGcd, wFdv, wNeg, wMul, wAdd, wSub, wMod, wPar, Ms.fl, wMs, setM, Tg.w, wTup_cons, wTup_nil, wLcE, wF, List.getElem?_cons_zero, List.getElem?_cons_succ, List.set_cons_zero, List.set_cons_succ, Nat.reduceSub, Nat.reduceAdd, List.length_cons, List.length_nil, List.map_cons, List.map_nil, List.foldl_nil, List.replicate_succ, List.replicate_zero, Nat.reduceEqDiff, if_false, if_true, T.bl.injEq, T.int.injEq, T.str.injEq, T.tup.injEq, T.lst.injEq, exists_eq_left', true_or, and_true, true_and, reduceCtorEq, reduceIte, decide_eq_true_eq, seqT, Option.some.injEq, wipeT, wRev, wSl, false_or, or_true, bneF, bneT, Int.toNat_natCast, okB_int, okB_non, okB_rT, okB_rTs, okB_rTt, ownL, wLt, wIn, inT_rTs, okE_int, okE_str, okE_rT, okE_rTs, okE_rTt, okE_nil, tyIs, wListF, wCatF, timesT, wZip]
        refine ⟨z, r, rfl, hab z hz, hb r (List.mem_of_getElem? hr), ?_⟩
        refine ⟨_, rfl, ?_⟩
        by_cases hzr : z < r
        · simp only [hzr, decide_true, if_true]; exact k1 (by simpa using hzr)
        · simp only [hzr, decide_false, Bool.false_eq_true, if_false]; exact k2 (by simpa using hzr)
      · have hf := List.length_filter_le (fun z => decide (z < r)) acc
        simp only [wSs, wS, w, mk, bOf, wEs, wXs, wP, wI, wIfs, wAnd, wOr, rd, L3.startT, frz, frz1, List.foldl, List.map, List.length, endsOf, List.cons_append, List.nil_append, List.replicate, List.set, Co.w, Bo.w, Bf.w, wCmp, wGcd, wFdv, wNeg, wMul, wAdd, wSub, wMod, wPar, Ms.fl, wMs, setM, Tg.w, wTup_cons, wTup_nil, wLcE, wF, List.getElem?_cons_zero, List.getElem?_cons_succ, List.set_cons_zero, List.set_cons_succ, Nat.reduceSub, Nat.reduceAdd, List.length_cons, List.length_nil, List.map_cons, List.map_nil, List.foldl_nil, List.replicate_succ, List.replicate_zero, Nat.reduceEqDiff, if_false, if_true, T.bl.injEq, T.int.injEq, T.str.injEq, T.tup.injEq, T.lst.injEq, exists_eq_left', true_or, and_true, true_and, reduceCtorEq, reduceIte, decide_eq_true_eq, seqT, Option.some.injEq, wipeT, wRev, wSl, false_or, or_true, bneF, bneT, Int.toNat_natCast, okB_int, okB_non, okB_rT, okB_rTs, okB_rTt, ownL, wLt, wIn, inT_rTs, okE_int, okE_str, okE_rT, okE_rTs, okE_rTt, okE_nil, tyIs, wListF, wCatF, timesT, wZip, List.nil_append]
        rw [List.length_map] at *
        rw [cut_from]
        rw [show ((acc.filter fun z => decide (z < r)).map rT ++ [rT r]) ++ (acc.map rT).drop (acc.filter fun z => decide (z < r)).length = (ins acc r).map rT by rw [e, List.map_append, List.map_append, List.map_drop]; rfl]
        refine ⟨Nat.succ_le_of_lt (small5000 (by omega)), Nat.le_of_lt (small5000 (by simp; omega)), Nat.le_of_lt (small5000 (by simp; omega)), hK' _ _ _⟩
  · rintro ρ ⟨x2, x3, x4, rfl⟩
    simp only [wSs, wS, w, mk, bOf, wEs, wXs, wP, wI, wIfs, wAnd, wOr, rd, L3.startT, frz, frz1, List.foldl, List.map, List.length, endsOf, List.cons_append, List.nil_append, List.replicate, List.set, Co.w, Bo.w, Bf.w, wCmp, wGcd, wFdv, wNeg, wMul, wAdd, wSub, wMod, wPar, Ms.fl, wMs, setM, Tg.w, wTup_cons, wTup_nil, wLcE, wF, List.getElem?_cons_zero, List.getElem?_cons_succ, List.set_cons_zero, List.set_cons_succ, Nat.reduceSub, Nat.reduceAdd, List.length_cons, List.length_nil, List.map_cons, List.map_nil, List.foldl_nil, List.replicate_succ, List.replicate_zero, Nat.reduceEqDiff, if_false, if_true, T.bl.injEq, T.int.injEq, T.str.injEq, T.tup.injEq, T.lst.injEq, exists_eq_left', true_or, and_true, true_and, reduceCtorEq, reduceIte, decide_eq_true_eq, seqT, Option.some.injEq, wipeT, wRev, wSl, false_or, or_true, bneF, bneT, Int.toNat_natCast, okB_int, okB_non, okB_rT, okB_rTs, okB_rTt, ownL, wLt, wIn, inT_rTs, okE_int, okE_str, okE_rT, okE_rTs, okE_rTt, okE_nil, tyIs, wListF, wCatF, timesT, wZip]
    rw [List.length_map, List.take_length]
    exact q
/-! ### the gap's number -/
def sp_lgap : VSp := fun ds Q _ => ∃ (ps : List Rat) (x : Rat), ds = [.lst (ps.map rT), rT x] ∧ (∀ r ∈ ps, bd 1000 r) ∧ bd 1000 x ∧ ps.length ≤ 5000 ∧ Q (.int ((gapn ps x : Nat) : Int))
theorem ws_l_gap {G : Gt} (h1 : G "_law_less" = some ⟨2, 0, sp_less⟩) (ds : List T) (Q : T → Prop) (E : Ex → Prop) (h : sp_lgap ds Q E) : wSs G b_l_gap (L3.startT ["_law_points", "_law_point_here", "_law_one"] ds) (endsOf 0 Q E) := by
  obtain ⟨ps, x, rfl, hb, hx, hl, q⟩ := h
  simp only [b_l_gap, wSs, wS, w, mk, bOf, wEs, wXs, wP, wI, wIfs, wAnd, wOr, rd, L3.startT, frz, frz1, List.foldl, List.map, List.length, endsOf, List.cons_append, List.nil_append, List.replicate, List.set, Co.w, Bo.w, Bf.w, wCmp, wGcd, wFdv, wNeg, wMul, wAdd, wSub, wMod, wPar, Ms.fl, wMs, setM, Tg.w, wTup_cons, wTup_nil, wLcE, wF, List.getElem?_cons_zero, List.getElem?_cons_succ, List.set_cons_zero, List.set_cons_succ, Nat.reduceSub, Nat.reduceAdd, List.length_cons, List.length_nil, List.map_cons, List.map_nil, List.foldl_nil, List.replicate_succ, List.replicate_zero, Nat.reduceEqDiff, if_false, if_true, T.bl.injEq, T.int.injEq, T.str.injEq, T.tup.injEq, T.lst.injEq, exists_eq_left', true_or, and_true, true_and, reduceCtorEq, reduceIte, decide_eq_true_eq, seqT, Option.some.injEq, wipeT, wRev, wSl, false_or, or_true, bneF, bneT, Int.toNat_natCast, okB_int, okB_non, okB_rT, okB_rTs, okB_rTt, ownL, wLt, wIn, inT_rTs, okE_int, okE_str, okE_rT, okE_rTs, okE_rTt, okE_nil, tyIs, wListF, wCatF, timesT, wZip]
  refine wLc_over (f0 := rT) (p := fun z => decide (z < x)) (F := rT) ps [] (by rw [List.length_nil, Nat.zero_add]; exact small5000 (by omega)) (fun z hz KK K' N k1 k2 => ?_) ?_
  · simp only [e_l_gap_1, es_l_gap_2, wCall_of h1, wSs, wS, w, mk, bOf, wEs, wXs, wP, wI, wIfs, wAnd, wOr, rd, L3.startT, frz, frz1, List.foldl, List.map, List.length, endsOf, List.cons_append, List.nil_append, List.replicate, List.set, Co.w, Bo.w, Bf.w, wCmp, wGcd, wFdv, wNeg, wMul, wAdd, wSub, wMod, wPar, Ms.fl, wMs, setM, Tg.w, wTup_cons, wTup_nil, wLcE, wF, List.getElem?_cons_zero, List.getElem?_cons_succ, List.set_cons_zero, List.set_cons_succ, Nat.reduceSub, Nat.reduceAdd, List.length_cons, List.length_nil, List.map_cons, List.map_nil, List.foldl_nil, List.replicate_succ, List.replicate_zero, Nat.reduceEqDiff, if_false, if_true, T.bl.injEq, T.int.injEq, T.str.injEq, T.tup.injEq, T.lst.injEq, exists_eq_left', true_or, and_true, true_and, reduceCtorEq, reduceIte, decide_eq_true_eq, seqT, Option.some.injEq, wipeT, wRev, wSl, false_or, or_true, bneF, bneT, Int.toNat_natCast, okB_int, okB_non, okB_rT, okB_rTs, okB_rTt, ownL, wLt, wIn, inT_rTs, okE_int, okE_str, okE_rT, okE_rTs, okE_rTt, okE_nil, tyIs, wListF, wCatF, timesT, wZip]
    refine ⟨z, x, rfl, hb z hz, hx, ?_⟩
    refine ⟨_, rfl, ?_⟩
    by_cases hzr : z < x
    · simp only [hzr, decide_true, if_true]; exact k1 (by simpa using hzr)
    · simp only [hzr, decide_false, Bool.false_eq_true, if_false]; exact k2 (by simpa using hzr)
  · simp only [wSs, wS, w, mk, bOf, wEs, wXs, wP, wI, wIfs, wAnd, wOr, rd, L3.startT, frz, frz1, List.foldl, List.map, List.length, endsOf, List.cons_append, List.nil_append, List.replicate, List.set, Co.w, Bo.w, Bf.w, wCmp, wGcd, wFdv, wNeg, wMul, wAdd, wSub, wMod, wPar, Ms.fl, wMs, setM, Tg.w, wTup_cons, wTup_nil, wLcE, wF, List.getElem?_cons_zero, List.getElem?_cons_succ, List.set_cons_zero, List.set_cons_succ, Nat.reduceSub, Nat.reduceAdd, List.length_cons, List.length_nil, List.map_cons, List.map_nil, List.foldl_nil, List.replicate_succ, List.replicate_zero, Nat.reduceEqDiff, if_false, if_true, T.bl.injEq, T.int.injEq, T.str.injEq, T.tup.injEq, T.lst.injEq, exists_eq_left', true_or, and_true, true_and, reduceCtorEq, reduceIte, decide_eq_true_eq, seqT, Option.some.injEq, wipeT, wRev, wSl, false_or, or_true, bneF, bneT, Int.toNat_natCast, okB_int, okB_non, okB_rT, okB_rTs, okB_rTt, ownL, wLt, wIn, inT_rTs, okE_int, okE_str, okE_rT, okE_rTs, okE_rTt, okE_nil, tyIs, wListF, wCatF, timesT, wZip, List.length_map]
    exact q
/-! ### spread places -/
def sp_lspread : VSp := fun ds Q _ => ∃ (ps : List Rat) (g n : Nat), ds = [.lst (ps.map rT), .int g, .int n] ∧ (∀ r ∈ ps, bd 400 r) ∧ ps.length ≤ 5000 ∧ g ≤ ps.length ∧ n ≤ 1000 ∧ Q (.lst ((spr ps g n).map rT))
theorem ws_l_spread {G : Gt} (h1 : G "_law_point" = some ⟨2, 0, sp_point⟩) (ds : List T) (Q : T → Prop) (E : Ex → Prop) (h : sp_lspread ds Q E) : wSs G b_l_spread (L3.startT ["_law_points", "_law_gap", "_law_n", "_law_i", "_law_p", "_law_q", "_law_a", "_law_b", "_law_c", "_law_d"] ds) (endsOf 0 Q E) := by
  obtain ⟨ps, g, n, rfl, hb, hl, hg, hn, q⟩ := h
  have q' : Q (.lst ((List.range n).map fun i => rT (sprAt ps g n i))) := by
    unfold spr at q
    rw [List.map_map] at q
    exact q
  have hn1 : -(2 ^ 62 : Int) ≤ (n : Int) := by omega
  have hn2 : (n : Int) < 2 ^ 62 := by omega
  have hln : (List.range n).length < sizeLine := by rw [List.length_range]; exact sz1000 hn
  simp only [b_l_spread, wEq, wIx, eqT_int, wSs, wS, w, mk, bOf, wEs, wXs, wP, wI, wIfs, wAnd, wOr, rd, L3.startT, frz, frz1, List.foldl, List.map, List.length, endsOf, List.cons_append, List.nil_append, List.replicate, List.set, Co.w, Bo.w, Bf.w, wCmp, wGcd, wFdv, wNeg, wMul, wAdd, wSub, wMod, wPar, Ms.fl, wMs, setM, Tg.w, wTup_cons, wTup_nil, wLcE, wF, List.getElem?_cons_zero, List.getElem?_cons_succ, List.set_cons_zero, List.set_cons_succ, Nat.reduceSub, Nat.reduceAdd, List.length_cons, List.length_nil, List.map_cons, List.map_nil, List.foldl_nil, List.replicate_succ, List.replicate_zero, Nat.reduceEqDiff, if_false, if_true, T.bl.injEq, T.int.injEq, T.str.injEq, T.tup.injEq, T.lst.injEq, exists_eq_left', true_or, and_true, true_and, reduceCtorEq, reduceIte, decide_eq_true_eq, seqT, Option.some.injEq, wipeT, wRev, wSl, false_or, or_true, bneF, bneT, Int.toNat_natCast, okB_int, okB_non, okB_rT, okB_rTs, okB_rTt, ownL, wLt, wIn, inT_rTs, okE_int, okE_str, okE_rT, okE_rTs, okE_rTt, okE_nil, tyIs, wListF, wCatF, timesT, wZip]
  by_cases hp : ps = []
  · rw [if_pos (by subst hp; rfl)]
    refine ⟨hn1, hn2, ?_⟩
    unfold L3.rangeT
    refine wLc_each (F := fun i => rT (sprAt ps g n i)) _ hln (fun i _ K K' N k => ?_) q'
    simp only [e_l_spread_4, wSs, wS, w, mk, bOf, wEs, wXs, wP, wI, wIfs, wAnd, wOr, rd, L3.startT, frz, frz1, List.foldl, List.map, List.length, endsOf, List.cons_append, List.nil_append, List.replicate, List.set, Co.w, Bo.w, Bf.w, wCmp, wGcd, wFdv, wNeg, wMul, wAdd, wSub, wMod, wPar, Ms.fl, wMs, setM, Tg.w, wTup_cons, wTup_nil, wLcE, wF, List.getElem?_cons_zero, List.getElem?_cons_succ, List.set_cons_zero, List.set_cons_succ, Nat.reduceSub, Nat.reduceAdd, List.length_cons, List.length_nil, List.map_cons, List.map_nil, List.foldl_nil, List.replicate_succ, List.replicate_zero, Nat.reduceEqDiff, if_false, if_true, T.bl.injEq, T.int.injEq, T.str.injEq, T.tup.injEq, T.lst.injEq, exists_eq_left', true_or, and_true, true_and, reduceCtorEq, reduceIte, decide_eq_true_eq, seqT, Option.some.injEq, wipeT, wRev, wSl, false_or, or_true, bneF, bneT, Int.toNat_natCast, okB_int, okB_non, okB_rT, okB_rTs, okB_rTt, ownL, wLt, wIn, inT_rTs, okE_int, okE_str, okE_rT, okE_rTs, okE_rTt, okE_nil, tyIs, wListF, wCatF, timesT, wZip]
    refine ⟨by decide, ?_⟩
    unfold sprAt at k
    rw [if_pos hp, rT_int] at k
    rw [Int.zero_add]
    exact k
  have h0 : 0 < ps.length := List.length_pos_iff.mpr hp
  rw [if_neg (by rw [List.length_map]; omega)]
  by_cases hg0 : g = 0
  · subst hg0
    rw [if_pos (by rfl)]
    refine ⟨_, atI_pts (j := 0) (getD_of h0), ?_⟩
    simp only [rT, wSs, wS, w, mk, bOf, wEs, wXs, wP, wI, wIfs, wAnd, wOr, rd, L3.startT, frz, frz1, List.foldl, List.map, List.length, endsOf, List.cons_append, List.nil_append, List.replicate, List.set, Co.w, Bo.w, Bf.w, wCmp, wGcd, wFdv, wNeg, wMul, wAdd, wSub, wMod, wPar, Ms.fl, wMs, setM, Tg.w, wTup_cons, wTup_nil, wLcE, wF, List.getElem?_cons_zero, List.getElem?_cons_succ, List.set_cons_zero, List.set_cons_succ, Nat.reduceSub, Nat.reduceAdd, List.length_cons, List.length_nil, List.map_cons, List.map_nil, List.foldl_nil, List.replicate_succ, List.replicate_zero, Nat.reduceEqDiff, if_false, if_true, T.bl.injEq, T.int.injEq, T.str.injEq, T.tup.injEq, T.lst.injEq, exists_eq_left', true_or, and_true, true_and, reduceCtorEq, reduceIte, decide_eq_true_eq, seqT, Option.some.injEq, wipeT, wRev, wSl, false_or, or_true, bneF, bneT, Int.toNat_natCast, okB_int, okB_non, okB_rT, okB_rTs, okB_rTt, ownL, wLt, wIn, inT_rTs, okE_int, okE_str, okE_rT, okE_rTs, okE_rTt, okE_nil, tyIs, wListF, wCatF, timesT, wZip]
    refine ⟨hn1, hn2, ?_⟩
    unfold L3.rangeT
    refine wLc_each (F := fun i => rT (sprAt ps 0 n i)) _ hln (fun i hi K K' N k => ?_) q'
    rw [List.mem_range] at hi
    have hbd := hb _ (mem_getD h0)
    unfold sprAt at k
    rw [if_neg hp, if_pos rfl] at k
    generalize ps.getD 0 0 = r at *
    simp only [e_l_spread_3, wIx, wCall_of h1, wSs, wS, w, mk, bOf, wEs, wXs, wP, wI, wIfs, wAnd, wOr, rd, L3.startT, frz, frz1, List.foldl, List.map, List.length, endsOf, List.cons_append, List.nil_append, List.replicate, List.set, Co.w, Bo.w, Bf.w, wCmp, wGcd, wFdv, wNeg, wMul, wAdd, wSub, wMod, wPar, Ms.fl, wMs, setM, Tg.w, wTup_cons, wTup_nil, wLcE, wF, List.getElem?_cons_zero, List.getElem?_cons_succ, List.set_cons_zero, List.set_cons_succ, Nat.reduceSub, Nat.reduceAdd, List.length_cons, List.length_nil, List.map_cons, List.map_nil, List.foldl_nil, List.replicate_succ, List.replicate_zero, Nat.reduceEqDiff, if_false, if_true, T.bl.injEq, T.int.injEq, T.str.injEq, T.tup.injEq, T.lst.injEq, exists_eq_left', true_or, and_true, true_and, reduceCtorEq, reduceIte, decide_eq_true_eq, seqT, Option.some.injEq, wipeT, wRev, wSl, false_or, or_true, bneF, bneT, Int.toNat_natCast, okB_int, okB_non, okB_rT, okB_rTs, okB_rTt, ownL, wLt, wIn, inT_rTs, okE_int, okE_str, okE_rT, okE_rTs, okE_rTt, okE_nil, tyIs, wListF, wCatF, timesT, wZip]
    have hd := hbd.d
    have hni : ((n : Int) - (0 + (i : Int))).natAbs < 2 ^ 20 := by omega
    refine ⟨bd.cmul (k := 450) (two_le hni (by decide)) (two_le hd (by decide)) (by decide) (by decide), _, _, rfl, bd_pos, two_le (natAbs_sub_lt (two_le hbd.1 (by decide)) (natAbs_mul_lt (k := 400) hni hd)) (by decide), two_le hd (by decide), ?_⟩
    have e : mkRat (r.num - ((n : Int) - (0 + (i : Int))) * (r.den : Int)) ((r.den : Int)).toNat = r + (((i : Int) - (n : Int) : Int) : Rat) := by
      rw [mk_int bd_pos]
      have h3 := rat_num_den r
      have h5 := den_ne r
      push_cast
      have e1 : ((r.den : Int) : Rat) = (r.den : Rat) := rfl
      generalize (r.num : Rat) = a at *
      try rw [e1]
      generalize (r.den : Rat) = c at *
      generalize (n : Rat) = m at *
      generalize (i : Rat) = j at *
      subst h3
      grind
    rw [e]
    exact k
  rw [if_neg (by omega)]
  by_cases hgl : g = ps.length
  · rw [if_pos (by rw [List.length_map]; omega)]
    refine ⟨_, by rw [show (g : Int) - 1 = ((g - 1 : Nat) : Int) by omega]; exact atI_pts (getD_of (by omega)), ?_⟩
    simp only [rT, wSs, wS, w, mk, bOf, wEs, wXs, wP, wI, wIfs, wAnd, wOr, rd, L3.startT, frz, frz1, List.foldl, List.map, List.length, endsOf, List.cons_append, List.nil_append, List.replicate, List.set, Co.w, Bo.w, Bf.w, wCmp, wGcd, wFdv, wNeg, wMul, wAdd, wSub, wMod, wPar, Ms.fl, wMs, setM, Tg.w, wTup_cons, wTup_nil, wLcE, wF, List.getElem?_cons_zero, List.getElem?_cons_succ, List.set_cons_zero, List.set_cons_succ, Nat.reduceSub, Nat.reduceAdd, List.length_cons, List.length_nil, List.map_cons, List.map_nil, List.foldl_nil, List.replicate_succ, List.replicate_zero, Nat.reduceEqDiff, if_false, if_true, T.bl.injEq, T.int.injEq, T.str.injEq, T.tup.injEq, T.lst.injEq, exists_eq_left', true_or, and_true, true_and, reduceCtorEq, reduceIte, decide_eq_true_eq, seqT, Option.some.injEq, wipeT, wRev, wSl, false_or, or_true, bneF, bneT, Int.toNat_natCast, okB_int, okB_non, okB_rT, okB_rTs, okB_rTt, ownL, wLt, wIn, inT_rTs, okE_int, okE_str, okE_rT, okE_rTs, okE_rTt, okE_nil, tyIs, wListF, wCatF, timesT, wZip]
    refine ⟨hn1, hn2, ?_⟩
    unfold L3.rangeT
    refine wLc_each (F := fun i => rT (sprAt ps g n i)) _ hln (fun i hi K K' N k => ?_) q'
    rw [List.mem_range] at hi
    have hbd := hb _ (mem_getD (rs := ps) (j := g - 1) (by omega))
    unfold sprAt at k
    rw [if_neg hp, if_neg hg0, if_pos hgl] at k
    generalize ps.getD (g - 1) 0 = r at *
    simp only [e_l_spread_2, wIx, wCall_of h1, wSs, wS, w, mk, bOf, wEs, wXs, wP, wI, wIfs, wAnd, wOr, rd, L3.startT, frz, frz1, List.foldl, List.map, List.length, endsOf, List.cons_append, List.nil_append, List.replicate, List.set, Co.w, Bo.w, Bf.w, wCmp, wGcd, wFdv, wNeg, wMul, wAdd, wSub, wMod, wPar, Ms.fl, wMs, setM, Tg.w, wTup_cons, wTup_nil, wLcE, wF, List.getElem?_cons_zero, List.getElem?_cons_succ, List.set_cons_zero, List.set_cons_succ, Nat.reduceSub, Nat.reduceAdd, List.length_cons, List.length_nil, List.map_cons, List.map_nil, List.foldl_nil, List.replicate_succ, List.replicate_zero, Nat.reduceEqDiff, if_false, if_true, T.bl.injEq, T.int.injEq, T.str.injEq, T.tup.injEq, T.lst.injEq, exists_eq_left', true_or, and_true, true_and, reduceCtorEq, reduceIte, decide_eq_true_eq, seqT, Option.some.injEq, wipeT, wRev, wSl, false_or, or_true, bneF, bneT, Int.toNat_natCast, okB_int, okB_non, okB_rT, okB_rTs, okB_rTt, ownL, wLt, wIn, inT_rTs, okE_int, okE_str, okE_rT, okE_rTs, okE_rTt, okE_nil, tyIs, wListF, wCatF, timesT, wZip]
    have hd := hbd.d
    have hni : (0 + (i : Int) + 1).natAbs < 2 ^ 20 := by omega
    refine ⟨bd.cmul (k := 450) (two_le hni (by decide)) (two_le hd (by decide)) (by decide) (by decide), _, _, rfl, bd_pos, two_le (natAbs_add_lt (two_le hbd.1 (by decide)) (natAbs_mul_lt (k := 400) hni hd)) (by decide), two_le hd (by decide), ?_⟩
    have e : mkRat (r.num + (0 + (i : Int) + 1) * (r.den : Int)) ((r.den : Int)).toNat = r + (((i : Int) + 1 : Int) : Rat) := by
      rw [mk_int bd_pos]
      have h3 := rat_num_den r
      have h5 := den_ne r
      push_cast
      have e1 : ((r.den : Int) : Rat) = (r.den : Rat) := rfl
      generalize (r.num : Rat) = a at *
      try rw [e1]
      generalize (r.den : Rat) = c at *
      generalize (i : Rat) = j at *
      subst h3
      grind
    rw [e]
    exact k
  · rw [if_neg (by rw [List.length_map]; omega)]
    refine ⟨_, by rw [show (g : Int) - 1 = ((g - 1 : Nat) : Int) by omega]; exact atI_pts (getD_of (by omega)), ?_⟩
    simp only [rT, wSs, wS, w, mk, bOf, wEs, wXs, wP, wI, wIfs, wAnd, wOr, rd, L3.startT, frz, frz1, List.foldl, List.map, List.length, endsOf, List.cons_append, List.nil_append, List.replicate, List.set, Co.w, Bo.w, Bf.w, wCmp, wGcd, wFdv, wNeg, wMul, wAdd, wSub, wMod, wPar, Ms.fl, wMs, setM, Tg.w, wTup_cons, wTup_nil, wLcE, wF, List.getElem?_cons_zero, List.getElem?_cons_succ, List.set_cons_zero, List.set_cons_succ, Nat.reduceSub, Nat.reduceAdd, List.length_cons, List.length_nil, List.map_cons, List.map_nil, List.foldl_nil, List.replicate_succ, List.replicate_zero, Nat.reduceEqDiff, if_false, if_true, T.bl.injEq, T.int.injEq, T.str.injEq, T.tup.injEq, T.lst.injEq, exists_eq_left', true_or, and_true, true_and, reduceCtorEq, reduceIte, decide_eq_true_eq, seqT, Option.some.injEq, wipeT, wRev, wSl, false_or, or_true, bneF, bneT, Int.toNat_natCast, okB_int, okB_non, okB_rT, okB_rTs, okB_rTt, ownL, wLt, wIn, inT_rTs, okE_int, okE_str, okE_rT, okE_rTs, okE_rTt, okE_nil, tyIs, wListF, wCatF, timesT, wZip]
    refine ⟨_, atI_pts (getD_of (by omega)), ?_⟩
    simp only [rT, wSs, wS, w, mk, bOf, wEs, wXs, wP, wI, wIfs, wAnd, wOr, rd, L3.startT, frz, frz1, List.foldl, List.map, List.length, endsOf, List.cons_append, List.nil_append, List.replicate, List.set, Co.w, Bo.w, Bf.w, wCmp, wGcd, wFdv, wNeg, wMul, wAdd, wSub, wMod, wPar, Ms.fl, wMs, setM, Tg.w, wTup_cons, wTup_nil, wLcE, wF, List.getElem?_cons_zero, List.getElem?_cons_succ, List.set_cons_zero, List.set_cons_succ, Nat.reduceSub, Nat.reduceAdd, List.length_cons, List.length_nil, List.map_cons, List.map_nil, List.foldl_nil, List.replicate_succ, List.replicate_zero, Nat.reduceEqDiff, if_false, if_true, T.bl.injEq, T.int.injEq, T.str.injEq, T.tup.injEq, T.lst.injEq, exists_eq_left', true_or, and_true, true_and, reduceCtorEq, reduceIte, decide_eq_true_eq, seqT, Option.some.injEq, wipeT, wRev, wSl, false_or, or_true, bneF, bneT, Int.toNat_natCast, okB_int, okB_non, okB_rT, okB_rTs, okB_rTt, ownL, wLt, wIn, inT_rTs, okE_int, okE_str, okE_rT, okE_rTs, okE_rTt, okE_nil, tyIs, wListF, wCatF, timesT, wZip]
    refine ⟨hn1, hn2, ?_⟩
    unfold L3.rangeT
    refine wLc_each (F := fun i => rT (sprAt ps g n i)) _ hln (fun i hi K K' N k => ?_) q'
    rw [List.mem_range] at hi
    have hbr := hb _ (mem_getD (rs := ps) (j := g - 1) (by omega))
    have hbs := hb _ (mem_getD (rs := ps) (j := g) (by omega))
    unfold sprAt at k
    rw [if_neg hp, if_neg hg0, if_neg hgl] at k
    generalize ps.getD (g - 1) 0 = r at *
    generalize ps.getD g 0 = s at *
    simp only [e_l_spread_1, wIx, wCall_of h1, wSs, wS, w, mk, bOf, wEs, wXs, wP, wI, wIfs, wAnd, wOr, rd, L3.startT, frz, frz1, List.foldl, List.map, List.length, endsOf, List.cons_append, List.nil_append, List.replicate, List.set, Co.w, Bo.w, Bf.w, wCmp, wGcd, wFdv, wNeg, wMul, wAdd, wSub, wMod, wPar, Ms.fl, wMs, setM, Tg.w, wTup_cons, wTup_nil, wLcE, wF, List.getElem?_cons_zero, List.getElem?_cons_succ, List.set_cons_zero, List.set_cons_succ, Nat.reduceSub, Nat.reduceAdd, List.length_cons, List.length_nil, List.map_cons, List.map_nil, List.foldl_nil, List.replicate_succ, List.replicate_zero, Nat.reduceEqDiff, if_false, if_true, T.bl.injEq, T.int.injEq, T.str.injEq, T.tup.injEq, T.lst.injEq, exists_eq_left', true_or, and_true, true_and, reduceCtorEq, reduceIte, decide_eq_true_eq, seqT, Option.some.injEq, wipeT, wRev, wSl, false_or, or_true, bneF, bneT, Int.toNat_natCast, okB_int, okB_non, okB_rT, okB_rTs, okB_rTt, ownL, wLt, wIn, inT_rTs, okE_int, okE_str, okE_rT, okE_rTs, okE_rTt, okE_nil, tyIs, wListF, wCatF, timesT, wZip]
    have hni : (0 + (i : Int) + 1).natAbs < 2 ^ 20 := by omega
    have hnn : ((n : Int) + 1).natAbs < 2 ^ 20 := by omega
    have a1 := natAbs_mul_lt hbr.1 hbs.d
    have a2 := natAbs_mul_lt hbs.1 hbr.d
    have a3 := natAbs_mul_lt hbr.d hbs.d
    have a4 := natAbs_sub_lt a2 a1
    have c : ∀ {x y : Int} {j k : Nat}, x.natAbs < 2 ^ j → y.natAbs < 2 ^ k → j ≤ 900 → k ≤ 900 → CMulW x y := fun hx hy l1 l2 => bd.cmul (k := 900) (two_le hx l1) (two_le hy l2) (by decide) (by decide)
    have hp2 : (0 : Int) < (r.den : Int) * (s.den : Int) * ((n : Int) + 1) := Int.mul_pos (Int.mul_pos bd_pos bd_pos) (by omega)
    refine ⟨c hbr.1 hbs.d (by decide) (by decide), c a1 hnn (by decide) (by decide), c hbs.1 hbr.d (by decide) (by decide), c hbr.1 hbs.d (by decide) (by decide), c a4 hni (by decide) (by decide), c hbr.d hbs.d (by decide) (by decide), c a3 hnn (by decide) (by decide), _, _, rfl, hp2,
      two_le (natAbs_add_lt (two_le (natAbs_mul_lt a1 hnn) (show _ ≤ 900 by decide)) (two_le (natAbs_mul_lt a4 hni) (by decide))) (by decide), two_le (natAbs_mul_lt a3 hnn) (by decide), ?_⟩
    have e : mkRat (r.num * (s.den : Int) * ((n : Int) + 1) + (s.num * (r.den : Int) - r.num * (s.den : Int)) * (0 + (i : Int) + 1)) ((r.den : Int) * (s.den : Int) * ((n : Int) + 1)).toNat = r * ((((n : Int) + 1 : Int) : Rat) - (((i : Int) + 1 : Int) : Rat)) / (((n : Int) + 1 : Int) : Rat) + s * (((i : Int) + 1 : Int) : Rat) / (((n : Int) + 1 : Int) : Rat) := by
      rw [mk_int hp2]
      have h3 := rat_num_den r
      have h4 := rat_num_den s
      have h5 := den_ne r
      have h6 := den_ne s
      have h7 : ((((n : Int) + 1 : Int)) : Rat) ≠ 0 := by
        intro z
        have := Rat.intCast_eq_zero_iff.mp z
        omega
      push_cast at h7 ⊢
      have e1 : ((r.den : Int) : Rat) = (r.den : Rat) := rfl
      have e2 : ((s.den : Int) : Rat) = (s.den : Rat) := rfl
      generalize (r.num : Rat) = a at *
      generalize (s.num : Rat) = b at *
      try rw [e1, e2]
      generalize (r.den : Rat) = c at *
      generalize (s.den : Rat) = d at *
      generalize (n : Rat) = m at *
      generalize (i : Rat) = j at *
      subst h3 h4
      grind
    rw [e]
    exact k
end LawP

set_option exponentiation.threshold 4000
/-! LW2: words of the laws' own helpers: support, text. -/
namespace LawP
open PySem PySem.Spec PyProof.Rows L2 L3

theorem atC0 {x : T} {xs : List T} : atI (x :: xs) 0 = some x := by
  unfold atI ixN
  simp
theorem atC1 {x y : T} {xs : List T} : atI (x :: y :: xs) 1 = some y := atI_nat (j := 1) rfl
theorem atC2 {x y z : T} {xs : List T} : atI (x :: y :: z :: xs) 2 = some z := atI_nat (j := 2) rfl
theorem log2_bd {k : Nat} {i : Int} (h : i.natAbs < 2 ^ k) (hk : k ≤ 1900) : i.natAbs.log2 < 1920 := Nat.lt_of_lt_of_le (PySem.Flt.log2_lt_of (k := 1900) (by decide) (two_le h hk)) (by decide)
theorem cut1 {x : T} {xs : List T} : cutT (x :: xs) (some 1) none = xs := cut_from (i := 1)
theorem eq_rs : L3.eqT (.str "row") (.str "set") = false := by rw [eqT_str]; decide +kernel
theorem eq_rr : L3.eqT (.str "row") (.str "row") = true := by rw [eqT_str]; decide +kernel
theorem eq_ss : L3.eqT (.str "set") (.str "set") = true := by rw [eqT_str]; decide +kernel
theorem eq_sr : L3.eqT (.str "set") (.str "row") = false := by rw [eqT_str]; decide +kernel
theorem eq_is {i : Int} {s : Str} : L3.eqT (.int i) (.str s) = false := by
  unfold L3.eqT toPy
  first | rfl | simp [PyData.eqv]
theorem okE_is {i : Int} {s : Str} (h : PyData.strOk s = true) : okE (.int i) (.str s) = true := okE_of okB_int (by simpa [okB, okD] using h)
theorem ok_set : PyData.strOk "set" = true := by decide +kernel
theorem ok_row : PyData.strOk "row" = true := by decide +kernel
theorem suppL_take {vs : List Val} {i : Nat} {v : Val} (h : vs[i]? = some v) : suppL (vs.take (i + 1)) = suppL (vs.take i) ++ supp v := by
  rw [suppL_map, suppL_map, List.take_add_one, h, List.flatMap_append]
  simp
/-! ### the support -/
def sp_lsupp (d : Nat) : VSp := fun ds Q _ => ∃ v : Val, ds = [vT v] ∧ BV 1000 v ∧ vsz v ≤ 1000 ∧ dep v < d ∧ Q (.lst ((supp v).map rT))
theorem ws_l_supp {G : Gt} {d : Nat} (hr : G "_law_support" = some ⟨1, 0, sp_lsupp d⟩) (ha : G "_law_ascending" = some ⟨1, 0, sp_asc⟩) (ds : List T) (Q : T → Prop) (E : Ex → Prop) (h : sp_lsupp (d + 1) ds Q E) : wSs G b_l_support (L3.startT ["_law_value", "_law_found", "_law_part"] ds) (endsOf 0 Q E) := by
  obtain ⟨v, rfl, hb, hz, hd, q⟩ := h
  cases v with
  | word s =>
    rw [supp] at q
    simp only [b_l_support, vT, wSs, wS, w, mk, bOf, wEs, wXs, wP, wI, wIfs, wAnd, wOr, rd, L3.startT, frz, frz1, List.foldl, List.map, List.length, endsOf, List.cons_append, List.nil_append, List.replicate, List.set, Co.w, Bo.w, Bf.w, wCmp, wGcd, wFdv, wNeg, wMul, wAdd, wSub, wMod, wPar, Ms.fl, wMs, setM, Tg.w, wTup_cons, wTup_nil, wLcE, wF, List.getElem?_cons_zero, List.getElem?_cons_succ, List.set_cons_zero, List.set_cons_succ, Nat.reduceSub, Nat.reduceAdd, List.length_cons, List.length_nil, List.map_cons, List.map_nil, List.foldl_nil, List.replicate_succ, List.replicate_zero, Nat.reduceEqDiff, if_false, if_true, T.bl.injEq, T.int.injEq, T.str.injEq, T.tup.injEq, T.lst.injEq, exists_eq_left', true_or, and_true, true_and, reduceCtorEq, reduceIte, decide_eq_true_eq, seqT, Option.some.injEq, wipeT, wRev, wSl, false_or, or_true, bneF, bneT, Int.toNat_natCast, okB_int, okB_non, okB_rT, okB_rTs, okB_rTt, ownL, wLt, wIn, inT_rTs, okE_int, okE_str, okE_rT, okE_rTs, okE_rTt, okE_nil, tyIs, wListF, wCatF, timesT, wZip]
    exact ⟨Nat.zero_le _, q⟩
  | pt r =>
    rw [supp] at q
    simp only [b_l_support, vT, rT, wIx, atC0, wEq, eq_is, okE_is ok_set, okE_is ok_row, Bool.false_eq_true, wSs, wS, w, mk, bOf, wEs, wXs, wP, wI, wIfs, wAnd, wOr, rd, L3.startT, frz, frz1, List.foldl, List.map, List.length, endsOf, List.cons_append, List.nil_append, List.replicate, List.set, Co.w, Bo.w, Bf.w, wCmp, wGcd, wFdv, wNeg, wMul, wAdd, wSub, wMod, wPar, Ms.fl, wMs, setM, Tg.w, wTup_cons, wTup_nil, wLcE, wF, List.getElem?_cons_zero, List.getElem?_cons_succ, List.set_cons_zero, List.set_cons_succ, Nat.reduceSub, Nat.reduceAdd, List.length_cons, List.length_nil, List.map_cons, List.map_nil, List.foldl_nil, List.replicate_succ, List.replicate_zero, Nat.reduceEqDiff, if_false, if_true, T.bl.injEq, T.int.injEq, T.str.injEq, T.tup.injEq, T.lst.injEq, exists_eq_left', true_or, and_true, true_and, reduceCtorEq, reduceIte, decide_eq_true_eq, seqT, Option.some.injEq, wipeT, wRev, wSl, false_or, or_true, bneF, bneT, Int.toNat_natCast, okB_int, okB_non, okB_rT, okB_rTs, okB_rTt, ownL, wLt, wIn, inT_rTs, okE_int, okE_str, okE_rT, okE_rTs, okE_rTt, okE_nil, tyIs, wListF, wCatF, timesT, wZip]
    exact ⟨by decide, q⟩
  | set ps ms =>
    rw [supp] at q
    simp only [b_l_support, vT_set, wIx, atC0, atC1, wEq, eq_ss, wSs, wS, w, mk, bOf, wEs, wXs, wP, wI, wIfs, wAnd, wOr, rd, L3.startT, frz, frz1, List.foldl, List.map, List.length, endsOf, List.cons_append, List.nil_append, List.replicate, List.set, Co.w, Bo.w, Bf.w, wCmp, wGcd, wFdv, wNeg, wMul, wAdd, wSub, wMod, wPar, Ms.fl, wMs, setM, Tg.w, wTup_cons, wTup_nil, wLcE, wF, List.getElem?_cons_zero, List.getElem?_cons_succ, List.set_cons_zero, List.set_cons_succ, Nat.reduceSub, Nat.reduceAdd, List.length_cons, List.length_nil, List.map_cons, List.map_nil, List.foldl_nil, List.replicate_succ, List.replicate_zero, Nat.reduceEqDiff, if_false, if_true, T.bl.injEq, T.int.injEq, T.str.injEq, T.tup.injEq, T.lst.injEq, exists_eq_left', true_or, and_true, true_and, reduceCtorEq, reduceIte, decide_eq_true_eq, seqT, Option.some.injEq, wipeT, wRev, wSl, false_or, or_true, bneF, bneT, Int.toNat_natCast, okB_int, okB_non, okB_rT, okB_rTs, okB_rTt, ownL, wLt, wIn, inT_rTs, okE_int, okE_str, okE_rT, okE_rTs, okE_rTt, okE_nil, tyIs, wListF, wCatF, timesT, wZip]
    exact q
  | row vs =>
    rw [BV, BVL_iff] at hb
    rw [dep] at hd
    rw [vsz] at hz
    rw [supp] at q
    simp only [b_l_support, vT_row, wIx, atC0, wEq, eq_rs, eq_rr, Bool.false_eq_true, cut1, wSs, wS, w, mk, bOf, wEs, wXs, wP, wI, wIfs, wAnd, wOr, rd, L3.startT, frz, frz1, List.foldl, List.map, List.length, endsOf, List.cons_append, List.nil_append, List.replicate, List.set, Co.w, Bo.w, Bf.w, wCmp, wGcd, wFdv, wNeg, wMul, wAdd, wSub, wMod, wPar, Ms.fl, wMs, setM, Tg.w, wTup_cons, wTup_nil, wLcE, wF, List.getElem?_cons_zero, List.getElem?_cons_succ, List.set_cons_zero, List.set_cons_succ, Nat.reduceSub, Nat.reduceAdd, List.length_cons, List.length_nil, List.map_cons, List.map_nil, List.foldl_nil, List.replicate_succ, List.replicate_zero, Nat.reduceEqDiff, if_false, if_true, T.bl.injEq, T.int.injEq, T.str.injEq, T.tup.injEq, T.lst.injEq, exists_eq_left', true_or, and_true, true_and, reduceCtorEq, reduceIte, decide_eq_true_eq, seqT, Option.some.injEq, wipeT, wRev, wSl, false_or, or_true, bneF, bneT, Int.toNat_natCast, okB_int, okB_non, okB_rT, okB_rTs, okB_rTt, ownL, wLt, wIn, inT_rTs, okE_int, okE_str, okE_rT, okE_rTs, okE_rTt, okE_nil, tyIs, wListF, wCatF, timesT, wZip]
    refine ⟨Nat.zero_le _, ?_⟩
    have hlen : ∀ i, (suppL (vs.take i)).length ≤ 1000 := fun i => by
      have h1 := suppL_len (vs := vs.take i) fun v _ => supp_len v
      have h2 : vszL (vs.take i) ≤ vszL vs := by
        conv => rhs; rw [← List.take_append_drop i vs]
        have : ∀ a b : List Val, vszL (a ++ b) = vszL a + vszL b := fun a b => by
          induction a with
          | nil => simp [vszL]
          | cons x a ih => rw [List.cons_append, vszL, vszL, ih]; omega
        rw [this]; omega
      omega
    refine wFor_inv (fun i ρ => ∃ x2, ρ = [.sh (.tup (.str "row" :: vs.map vT)), .sh (.lst ((suppL (vs.take i)).map rT)), x2]) ⟨_, rfl⟩ ?_ ?_
    · rintro i d0 ρ K hd0 ⟨x2, rfl⟩ hK
      rw [List.getElem?_map] at hd0
      obtain ⟨v, hv, rfl⟩ := Option.map_eq_some_iff.mp hd0
      have hm := List.mem_of_getElem? hv
      have h1 := dep_mem hm
      have h2 := vsz_mem hm
      simp only [b_l_support_1, wCall_of hr, wSs, wS, w, mk, bOf, wEs, wXs, wP, wI, wIfs, wAnd, wOr, rd, L3.startT, frz, frz1, List.foldl, List.map, List.length, endsOf, List.cons_append, List.nil_append, List.replicate, List.set, Co.w, Bo.w, Bf.w, wCmp, wGcd, wFdv, wNeg, wMul, wAdd, wSub, wMod, wPar, Ms.fl, wMs, setM, Tg.w, wTup_cons, wTup_nil, wLcE, wF, List.getElem?_cons_zero, List.getElem?_cons_succ, List.set_cons_zero, List.set_cons_succ, Nat.reduceSub, Nat.reduceAdd, List.length_cons, List.length_nil, List.map_cons, List.map_nil, List.foldl_nil, List.replicate_succ, List.replicate_zero, Nat.reduceEqDiff, if_false, if_true, T.bl.injEq, T.int.injEq, T.str.injEq, T.tup.injEq, T.lst.injEq, exists_eq_left', true_or, and_true, true_and, reduceCtorEq, reduceIte, decide_eq_true_eq, seqT, Option.some.injEq, wipeT, wRev, wSl, false_or, or_true, bneF, bneT, Int.toNat_natCast, okB_int, okB_non, okB_rT, okB_rTs, okB_rTt, ownL, wLt, wIn, inT_rTs, okE_int, okE_str, okE_rT, okE_rTs, okE_rTt, okE_nil, tyIs, wListF, wCatF, timesT, wZip]
      refine ⟨v, rfl, hb v hm, by omega, by omega, ?_⟩
      have h3 := hlen (i + 1)
      rw [suppL_take hv, List.length_append] at h3
      refine ⟨by rw [List.length_map, List.length_map]; exact Nat.le_of_lt (small5000 (by omega)), ?_⟩
      exact hK _ ⟨.sh (vT v), by rw [suppL_take hv, List.map_append]⟩
    · rintro ρ ⟨x2, rfl⟩
      simp only [wCall_of ha, wSs, wS, w, mk, bOf, wEs, wXs, wP, wI, wIfs, wAnd, wOr, rd, L3.startT, frz, frz1, List.foldl, List.map, List.length, endsOf, List.cons_append, List.nil_append, List.replicate, List.set, Co.w, Bo.w, Bf.w, wCmp, wGcd, wFdv, wNeg, wMul, wAdd, wSub, wMod, wPar, Ms.fl, wMs, setM, Tg.w, wTup_cons, wTup_nil, wLcE, wF, List.getElem?_cons_zero, List.getElem?_cons_succ, List.set_cons_zero, List.set_cons_succ, Nat.reduceSub, Nat.reduceAdd, List.length_cons, List.length_nil, List.map_cons, List.map_nil, List.foldl_nil, List.replicate_succ, List.replicate_zero, Nat.reduceEqDiff, if_false, if_true, T.bl.injEq, T.int.injEq, T.str.injEq, T.tup.injEq, T.lst.injEq, exists_eq_left', true_or, and_true, true_and, reduceCtorEq, reduceIte, decide_eq_true_eq, seqT, Option.some.injEq, wipeT, wRev, wSl, false_or, or_true, bneF, bneT, Int.toNat_natCast, okB_int, okB_non, okB_rT, okB_rTs, okB_rTt, ownL, wLt, wIn, inT_rTs, okE_int, okE_str, okE_rT, okE_rTs, okE_rTt, okE_nil, tyIs, wListF, wCatF, timesT, wZip]
      rw [List.length_map, List.take_length]
      refine ⟨suppL vs, rfl, fun r hr' => ?_, ?_, q⟩
      · rw [suppL_map, List.mem_flatMap] at hr'
        obtain ⟨v, hv, hr'⟩ := hr'
        exact (hb v hv).supp r hr'
      · have := hlen vs.length
        rw [List.take_length] at this
        omega
/-! ### the text -/
theorem pt_len {k : Nat} {r : Rat} (h : bd k r) (hk : k ≤ 1900) : (ptx r).length ≤ 4000 := by
  have h1 := shT_len (n := 0) (d := .int r.num) (decide_eq_true (log2_bd h.1 hk))
  have h2 := shT_len (n := 0) (d := .int (r.den : Int)) (decide_eq_true (log2_bd h.d hk))
  have e : ∀ i : Int, szT (.int i) = 1 := fun i => rfl
  rw [e] at h1 h2
  unfold ptx
  split
  · omega
  · rw [strLen_append, strLen_append]
    have : (("/" : Str)).length = 1 := by decide +kernel
    omega
theorem sum_le_mul {α : Type} {f g : α → Nat} {c : Nat} : ∀ {xs : List α}, (∀ x ∈ xs, f x ≤ c * g x) → (xs.map f).sum ≤ c * (xs.map g).sum
  | [], _ => Nat.zero_le _
  | x :: xs, h => by
    rw [List.map_cons, List.map_cons, List.sum_cons, List.sum_cons, Nat.mul_add]
    exact Nat.add_le_add (h x List.mem_cons_self) (sum_le_mul fun y hy => h y (List.mem_cons_of_mem _ hy))
theorem vszL_sum : ∀ {vs : List Val}, vszL vs = (vs.map vsz).sum
  | [] => rfl
  | v :: vs => by rw [vszL, List.map_cons, List.sum_cons, vszL_sum]
theorem joined_len {sep : Str} {ts : List Str} : (Txt.join sep ts).length ≤ (ts.map (·.length)).sum + ts.length * sep.length := by
  unfold Txt.join
  rw [PySem.StrLaws.glued_eq_join]
  exact PySem.StrLaws.join_length_le sep ts
theorem one_len {c : Char} : ((String.singleton c : String) : Str).length = 1 := by
  show (Str.ofString _).length = 1
  rw [PySem.ofString_length]
  simp
theorem l_blank : ((" " : Str)).length = 1 := by decide +kernel
theorem l_lt : (("<" : Str)).length = 1 := by decide +kernel
theorem l_gt : ((">" : Str)).length = 1 := by decide +kernel
theorem l_op : (("{" : Str)).length = 1 := by decide +kernel
theorem l_cl : (("}" : Str)).length = 1 := by decide +kernel
theorem l_bar : (("|" : Str)).length = 1 := by decide +kernel
theorem l_sl : (("/" : Str)).length = 1 := by decide +kernel
theorem fit_in {k n m : Nat} (h : (k + 12) * 2 ^ (1 + n) ≤ 1900) (hm : m ≤ n) : (2 * k + 12 + 12) * 2 ^ m ≤ 1900 := by
  have e : (2 * k + 12 + 12) * 2 ^ m = (k + 12) * 2 ^ (1 + m) := by rw [Nat.pow_add]; rw [← Nat.mul_assoc]; congr 1; omega
  rw [e]
  exact Nat.le_trans (Nat.mul_le_mul_left _ (Nat.pow_le_pow_right (by decide) (by omega))) h
theorem fit_le {k n m c : Nat} (h : (k + 12) * 2 ^ n ≤ c) (hm : m ≤ n) : (k + 12) * 2 ^ m ≤ c := Nat.le_trans (Nat.mul_le_mul_left _ (Nat.pow_le_pow_right (by decide) hm)) h
theorem fit_k {k n c : Nat} (h : (k + 12) * 2 ^ n ≤ c) : k + 12 ≤ c := by
  have := fit_le (m := 0) h (Nat.zero_le _)
  simpa using this
/-- all the points of v have at most 1900 bits -/
theorem txt_len {v : Val} : ∀ {k : Nat}, WV v → BV k v → (k + 12) * 2 ^ dep v ≤ 1900 → (txt v).length + 10 ≤ 4020 * vsz v := by
  have sumL : ∀ (vs : List Val), (∀ v ∈ vs, (txt v).length + 10 ≤ 4020 * vsz v) → ((vs.map txt).map (·.length)).sum + 10 * vs.length ≤ 4020 * vszL vs := fun vs => by
    induction vs with
    | nil => intro _; simp
    | cons v vs ih =>
      intro h
      have h1 := h v List.mem_cons_self
      have h2 := ih fun u hu => h u (List.mem_cons_of_mem _ hu)
      rw [List.map_cons, List.map_cons, List.sum_cons, vszL, List.length_cons]
      omega
  induction v using Val.ind with
  | hw s => intro k h _ _; rw [WV] at h; rw [txt, vsz]; omega
  | hp r =>
    intro k _ h hk
    rw [BV] at h
    rw [txt, vsz]
    have := pt_len h (by have := fit_k hk; omega)
    omega
  | hr vs ih =>
    intro k hw hb hk
    rw [WV, WVL_iff] at hw
    rw [BV, BVL_iff] at hb
    rw [dep] at hk
    have h1 := sumL vs fun v hv => ih v hv (hw v hv) (hb v hv) (fit_le hk (by have := dep_mem hv; omega))
    have h2 := joined_len (sep := " ") (ts := vs.map txt)
    rw [List.length_map, l_blank] at h2
    rw [txt, txtL_map, vsz, strLen_append, strLen_append, l_lt, l_gt]
    omega
  | hs ps ms ih =>
    intro k hw hb hk
    rw [WV, WVL_iff] at hw
    rw [BV, BVL_iff] at hb
    rw [dep] at hk
    have h1 := sumL ms fun v hv => ih v hv (hw.2 v hv) (hb.2 v hv) (fit_in hk (dep_mem hv))
    have h2 := joined_len (sep := " ") (ts := ms.map txt)
    have h3 := joined_len (sep := " ") (ts := ps.map ptx)
    have h4 : ((ps.map ptx).map (·.length)).sum ≤ 4000 * ps.length := by
      have hp : ∀ r ∈ ps, (ptx r).length ≤ 4000 := fun r hr => pt_len (hb.1 r hr) (by have := fit_k hk; omega)
      clear hb hk h3 hw
      induction ps with
      | nil => simp
      | cons r ps ih2 =>
        have h5 := ih2 fun s hs => hp s (List.mem_cons_of_mem _ hs)
        have h6 := hp r List.mem_cons_self
        rw [List.map_cons, List.map_cons, List.sum_cons, List.length_cons]
        omega
    rw [List.length_map, l_blank] at h2 h3
    rw [txt, txtL_map, vsz, strLen_append, strLen_append, strLen_append, strLen_append, l_op, l_cl, l_bar]
    omega
theorem pts_sum {ps : List Rat} (h : ∀ r ∈ ps, (ptx r).length ≤ 4000) : ((ps.map ptx).map (·.length)).sum ≤ 4000 * ps.length := by
  induction ps with
  | nil => simp
  | cons r ps ih2 =>
    have h5 := ih2 fun s hs => h s (List.mem_cons_of_mem _ hs)
    have h6 := h r List.mem_cons_self
    rw [List.map_cons, List.map_cons, List.sum_cons, List.length_cons]
    omega
theorem joined_sum {f : Val → Str} {vs : List Val} (h : ∀ v ∈ vs, (f v).length + 10 ≤ 4020 * vsz v) : ((vs.map f).map (·.length)).sum + 10 * vs.length ≤ 4020 * vszL vs := by
  induction vs with
  | nil => simp
  | cons v vs ih =>
    have h1 := h v List.mem_cons_self
    have h2 := ih fun u hu => h u (List.mem_cons_of_mem _ hu)
    rw [List.map_cons, List.map_cons, List.sum_cons, vszL, List.length_cons]
    omega
theorem strsT_map {α : Type} {f : α → Str} : ∀ xs : List α, strsT (xs.map fun x => T.str (f x)) = some (xs.map f)
  | [] => rfl
  | x :: xs => by rw [List.map_cons, strsT, strsT_map xs]; rfl
def sp_ltext (d : Nat) : VSp := fun ds Q _ => ∃ (v : Val) (k : Nat), ds = [vT v] ∧ WV v ∧ BV k v ∧ (k + 12) * 2 ^ dep v ≤ 1900 ∧ vsz v ≤ 1000 ∧ dep v < d ∧ Q (.str (txt v))
theorem big4 {n : Nat} (h : n ≤ 4100000) : n ≤ sizeLine := by rw [sizeLine_eq]; omega
theorem rp_int {k : Nat} {i : Int} (h : i.natAbs < 2 ^ k) (hk : k ≤ 1900) : rpOk (.int i) := ⟨decide_eq_true (log2_bd h hk), by show 1 ≤ 8000; decide⟩
theorem ws_l_text {G : Gt} {d : Nat} (hr : G "_law_text" = some ⟨1, 0, sp_ltext d⟩) (ds : List T) (Q : T → Prop) (E : Ex → Prop) (h : sp_ltext (d + 1) ds Q E) : wSs G b_l_text (L3.startT ["_law_value", "_law_left", "_law_one"] ds) (endsOf 0 Q E) := by
  obtain ⟨v, k, rfl, hw, hb, hk, hz, hd, q⟩ := h
  have hl := txt_len hw hb hk
  cases v with
  | word s =>
    rw [txt] at q
    simp only [b_l_text, vT, wSs, wS, w, mk, bOf, wEs, wXs, wP, wI, wIfs, wAnd, wOr, rd, L3.startT, frz, frz1, List.foldl, List.map, List.length, endsOf, List.cons_append, List.nil_append, List.replicate, List.set, Co.w, Bo.w, Bf.w, wCmp, wGcd, wFdv, wNeg, wMul, wAdd, wSub, wMod, wPar, Ms.fl, wMs, setM, Tg.w, wTup_cons, wTup_nil, wLcE, wF, List.getElem?_cons_zero, List.getElem?_cons_succ, List.set_cons_zero, List.set_cons_succ, Nat.reduceSub, Nat.reduceAdd, List.length_cons, List.length_nil, List.map_cons, List.map_nil, List.foldl_nil, List.replicate_succ, List.replicate_zero, Nat.reduceEqDiff, if_false, if_true, T.bl.injEq, T.int.injEq, T.str.injEq, T.tup.injEq, T.lst.injEq, exists_eq_left', true_or, and_true, true_and, reduceCtorEq, reduceIte, decide_eq_true_eq, seqT, Option.some.injEq, wipeT, wRev, wSl, false_or, or_true, bneF, bneT, Int.toNat_natCast, okB_int, okB_non, okB_rT, okB_rTs, okB_rTt, ownL, wLt, wIn, inT_rTs, okE_int, okE_str, okE_rT, okE_rTs, okE_rTt, okE_nil, tyIs, wListF, wCatF, timesT, wZip]
    exact q
  | pt r =>
    rw [txt] at q hl
    rw [vsz] at hl
    rw [BV] at hb
    have hkk := fit_k hk
    simp only [b_l_text, vT, rT, wIx, atC0, atC1, wEq, eq_is, eqT_int, okE_is ok_set, okE_is ok_row, Bool.false_eq_true, wSs, wS, w, mk, bOf, wEs, wXs, wP, wI, wIfs, wAnd, wOr, rd, L3.startT, frz, frz1, List.foldl, List.map, List.length, endsOf, List.cons_append, List.nil_append, List.replicate, List.set, Co.w, Bo.w, Bf.w, wCmp, wGcd, wFdv, wNeg, wMul, wAdd, wSub, wMod, wPar, Ms.fl, wMs, setM, Tg.w, wTup_cons, wTup_nil, wLcE, wF, List.getElem?_cons_zero, List.getElem?_cons_succ, List.set_cons_zero, List.set_cons_succ, Nat.reduceSub, Nat.reduceAdd, List.length_cons, List.length_nil, List.map_cons, List.map_nil, List.foldl_nil, List.replicate_succ, List.replicate_zero, Nat.reduceEqDiff, if_false, if_true, T.bl.injEq, T.int.injEq, T.str.injEq, T.tup.injEq, T.lst.injEq, exists_eq_left', true_or, and_true, true_and, reduceCtorEq, reduceIte, decide_eq_true_eq, seqT, Option.some.injEq, wipeT, wRev, wSl, false_or, or_true, bneF, bneT, Int.toNat_natCast, okB_int, okB_non, okB_rT, okB_rTs, okB_rTt, ownL, wLt, wIn, inT_rTs, okE_int, okE_str, okE_rT, okE_rTs, okE_rTt, okE_nil, tyIs, wListF, wCatF, timesT, wZip]
    unfold ptx at q hl
    by_cases h1 : r.den = 1
    · rw [if_pos h1] at q
      rw [if_pos (by omega)]
      exact ⟨rp_int hb.1 (by omega), q⟩
    · rw [if_neg h1] at q hl
      rw [if_neg (by omega)]
      rw [strLen_append, strLen_append] at hl
      refine ⟨rp_int hb.1 (by omega), big4 (by omega), rp_int hb.d (by omega), ?_, q⟩
      rw [strLen_append]
      exact big4 (by omega)
  | row vs =>
    rw [WV, WVL_iff] at hw
    rw [BV, BVL_iff] at hb
    rw [dep] at hd hk
    rw [vsz] at hz hl
    rw [txt, txtL_map, strLen_append, strLen_append] at hl
    rw [txt, txtL_map] at q
    simp only [b_l_text, vT_row, wIx, atC0, wEq, eq_rs, eq_rr, Bool.false_eq_true, cut1, wSs, wS, w, mk, bOf, wEs, wXs, wP, wI, wIfs, wAnd, wOr, rd, L3.startT, frz, frz1, List.foldl, List.map, List.length, endsOf, List.cons_append, List.nil_append, List.replicate, List.set, Co.w, Bo.w, Bf.w, wCmp, wGcd, wFdv, wNeg, wMul, wAdd, wSub, wMod, wPar, Ms.fl, wMs, setM, Tg.w, wTup_cons, wTup_nil, wLcE, wF, List.getElem?_cons_zero, List.getElem?_cons_succ, List.set_cons_zero, List.set_cons_succ, Nat.reduceSub, Nat.reduceAdd, List.length_cons, List.length_nil, List.map_cons, List.map_nil, List.foldl_nil, List.replicate_succ, List.replicate_zero, Nat.reduceEqDiff, if_false, if_true, T.bl.injEq, T.int.injEq, T.str.injEq, T.tup.injEq, T.lst.injEq, exists_eq_left', true_or, and_true, true_and, reduceCtorEq, reduceIte, decide_eq_true_eq, seqT, Option.some.injEq, wipeT, wRev, wSl, false_or, or_true, bneF, bneT, Int.toNat_natCast, okB_int, okB_non, okB_rT, okB_rTs, okB_rTt, ownL, wLt, wIn, inT_rTs, okE_int, okE_str, okE_rT, okE_rTs, okE_rTt, okE_nil, tyIs, wListF, wCatF, timesT, wZip]
    have hlen := len_vszL (vs := vs)
    refine wLc_each (F := fun v => T.str (txt v)) vs (small5000 (by omega)) (fun v hv K K' N kk => ?_) ?_
    · have h1 := dep_mem hv
      have h2 := vsz_mem hv
      simp only [e_l_text_1, wCall_of hr, wSs, wS, w, mk, bOf, wEs, wXs, wP, wI, wIfs, wAnd, wOr, rd, L3.startT, frz, frz1, List.foldl, List.map, List.length, endsOf, List.cons_append, List.nil_append, List.replicate, List.set, Co.w, Bo.w, Bf.w, wCmp, wGcd, wFdv, wNeg, wMul, wAdd, wSub, wMod, wPar, Ms.fl, wMs, setM, Tg.w, wTup_cons, wTup_nil, wLcE, wF, List.getElem?_cons_zero, List.getElem?_cons_succ, List.set_cons_zero, List.set_cons_succ, Nat.reduceSub, Nat.reduceAdd, List.length_cons, List.length_nil, List.map_cons, List.map_nil, List.foldl_nil, List.replicate_succ, List.replicate_zero, Nat.reduceEqDiff, if_false, if_true, T.bl.injEq, T.int.injEq, T.str.injEq, T.tup.injEq, T.lst.injEq, exists_eq_left', true_or, and_true, true_and, reduceCtorEq, reduceIte, decide_eq_true_eq, seqT, Option.some.injEq, wipeT, wRev, wSl, false_or, or_true, bneF, bneT, Int.toNat_natCast, okB_int, okB_non, okB_rT, okB_rTs, okB_rTt, ownL, wLt, wIn, inT_rTs, okE_int, okE_str, okE_rT, okE_rTs, okE_rTt, okE_nil, tyIs, wListF, wCatF, timesT, wZip]
      exact ⟨v, k, rfl, hw v hv, hb v hv, fit_le hk (by omega), by omega, by omega, kk⟩
    · have hs := joined_sum (f := txt) (vs := vs) fun v hv => txt_len (hw v hv) (hb v hv) (fit_le hk (by have := dep_mem hv; omega))
      refine ⟨_, _, rfl, strsT_map vs, by rw [List.length_map, l_blank]; omega, ?_, ?_, q⟩
      · rw [l_lt]; exact big4 (by omega)
      · rw [strLen_append, l_lt, l_gt]
        exact big4 (by omega)
  | set ps ms =>
    rw [WV, WVL_iff] at hw
    rw [BV, BVL_iff] at hb
    rw [dep] at hd hk
    rw [vsz] at hz hl
    rw [txt, txtL_map, strLen_append, strLen_append, strLen_append, strLen_append, l_op, l_cl, l_bar] at hl
    rw [txt, txtL_map] at q
    have hkk := fit_k hk
    simp only [b_l_text, vT_set, wIx, atC0, atC1, atC2, wEq, eq_ss, wSs, wS, w, mk, bOf, wEs, wXs, wP, wI, wIfs, wAnd, wOr, rd, L3.startT, frz, frz1, List.foldl, List.map, List.length, endsOf, List.cons_append, List.nil_append, List.replicate, List.set, Co.w, Bo.w, Bf.w, wCmp, wGcd, wFdv, wNeg, wMul, wAdd, wSub, wMod, wPar, Ms.fl, wMs, setM, Tg.w, wTup_cons, wTup_nil, wLcE, wF, List.getElem?_cons_zero, List.getElem?_cons_succ, List.set_cons_zero, List.set_cons_succ, Nat.reduceSub, Nat.reduceAdd, List.length_cons, List.length_nil, List.map_cons, List.map_nil, List.foldl_nil, List.replicate_succ, List.replicate_zero, Nat.reduceEqDiff, if_false, if_true, T.bl.injEq, T.int.injEq, T.str.injEq, T.tup.injEq, T.lst.injEq, exists_eq_left', true_or, and_true, true_and, reduceCtorEq, reduceIte, decide_eq_true_eq, seqT, Option.some.injEq, wipeT, wRev, wSl, false_or, or_true, bneF, bneT, Int.toNat_natCast, okB_int, okB_non, okB_rT, okB_rTs, okB_rTt, ownL, wLt, wIn, inT_rTs, okE_int, okE_str, okE_rT, okE_rTs, okE_rTt, okE_nil, tyIs, wListF, wCatF, timesT, wZip]
    have hlen := len_vszL (vs := ms)
    refine wLc_each (f0 := rT) (F := fun r => T.str (ptx r)) ps (small5000 (by omega)) (fun r hr' K K' N kk => ?_) ?_
    · simp only [e_l_text_3, wCall_of hr, wSs, wS, w, mk, bOf, wEs, wXs, wP, wI, wIfs, wAnd, wOr, rd, L3.startT, frz, frz1, List.foldl, List.map, List.length, endsOf, List.cons_append, List.nil_append, List.replicate, List.set, Co.w, Bo.w, Bf.w, wCmp, wGcd, wFdv, wNeg, wMul, wAdd, wSub, wMod, wPar, Ms.fl, wMs, setM, Tg.w, wTup_cons, wTup_nil, wLcE, wF, List.getElem?_cons_zero, List.getElem?_cons_succ, List.set_cons_zero, List.set_cons_succ, Nat.reduceSub, Nat.reduceAdd, List.length_cons, List.length_nil, List.map_cons, List.map_nil, List.foldl_nil, List.replicate_succ, List.replicate_zero, Nat.reduceEqDiff, if_false, if_true, T.bl.injEq, T.int.injEq, T.str.injEq, T.tup.injEq, T.lst.injEq, exists_eq_left', true_or, and_true, true_and, reduceCtorEq, reduceIte, decide_eq_true_eq, seqT, Option.some.injEq, wipeT, wRev, wSl, false_or, or_true, bneF, bneT, Int.toNat_natCast, okB_int, okB_non, okB_rT, okB_rTs, okB_rTt, ownL, wLt, wIn, inT_rTs, okE_int, okE_str, okE_rT, okE_rTs, okE_rTt, okE_nil, tyIs, wListF, wCatF, timesT, wZip]
      refine ⟨.pt r, k, by rw [vT], by rw [WV]; trivial, by rw [BV]; exact hb.1 r hr', ?_, by rw [vsz]; omega, by rw [dep]; omega, by rw [txt]; exact kk⟩
      rw [dep]
      omega
    · have hp := pts_sum (ps := ps) fun r hr => pt_len (hb.1 r hr) (by omega)
      refine ⟨_, _, rfl, strsT_map ps, by rw [List.length_map, l_blank]; omega, ?_⟩
      refine ⟨by rw [l_op]; exact big4 (by omega), by rw [strLen_append, l_op, l_bar]; exact big4 (by omega), ?_⟩
      refine wLc_each (F := fun v => T.str (txt v)) ms (small5000 (by omega)) (fun v hv K K' N kk => ?_) ?_
      · have h1 := dep_mem hv
        have h2 := vsz_mem hv
        simp only [e_l_text_2, wCall_of hr, wSs, wS, w, mk, bOf, wEs, wXs, wP, wI, wIfs, wAnd, wOr, rd, L3.startT, frz, frz1, List.foldl, List.map, List.length, endsOf, List.cons_append, List.nil_append, List.replicate, List.set, Co.w, Bo.w, Bf.w, wCmp, wGcd, wFdv, wNeg, wMul, wAdd, wSub, wMod, wPar, Ms.fl, wMs, setM, Tg.w, wTup_cons, wTup_nil, wLcE, wF, List.getElem?_cons_zero, List.getElem?_cons_succ, List.set_cons_zero, List.set_cons_succ, Nat.reduceSub, Nat.reduceAdd, List.length_cons, List.length_nil, List.map_cons, List.map_nil, List.foldl_nil, List.replicate_succ, List.replicate_zero, Nat.reduceEqDiff, if_false, if_true, T.bl.injEq, T.int.injEq, T.str.injEq, T.tup.injEq, T.lst.injEq, exists_eq_left', true_or, and_true, true_and, reduceCtorEq, reduceIte, decide_eq_true_eq, seqT, Option.some.injEq, wipeT, wRev, wSl, false_or, or_true, bneF, bneT, Int.toNat_natCast, okB_int, okB_non, okB_rT, okB_rTs, okB_rTt, ownL, wLt, wIn, inT_rTs, okE_int, okE_str, okE_rT, okE_rTs, okE_rTt, okE_nil, tyIs, wListF, wCatF, timesT, wZip]
        exact ⟨v, 2 * k + 12, rfl, hw.2 v hv, hb.2 v hv, fit_in hk h1, by omega, by omega, kk⟩
      · have hs := joined_sum (f := txt) (vs := ms) fun v hv => txt_len (hw.2 v hv) (hb.2 v hv) (fit_in hk (dep_mem hv))
        refine ⟨_, _, rfl, strsT_map ms, by rw [List.length_map, l_blank]; omega, ?_, ?_, q⟩
        · rw [strLen_append, strLen_append, l_op, l_bar]; exact big4 (by omega)
        · rw [strLen_append, strLen_append, strLen_append, l_op, l_bar, l_cl]; exact big4 (by omega)
end LawP

set_option exponentiation.threshold 4000
/-! LW3: words of the laws' own helpers: ends, moved, placed. -/
namespace LawP
open PySem PySem.Spec PyProof.Rows L2 L3

theorem map_inj_of {α β : Type} {f : α → β} : ∀ {xs ys : List α}, (∀ x ∈ xs, ∀ y, f x = f y → x = y) → xs.map f = ys.map f → xs = ys
  | [], [], _, _ => rfl
  | [], _ :: _, _, h => by simp at h
  | _ :: _, [], _, h => by simp at h
  | x :: xs, y :: ys, hi, h => by
    rw [List.map_cons, List.map_cons] at h
    injection h with h1 h2
    rw [hi x List.mem_cons_self y h1, map_inj_of (fun z hz => hi z (List.mem_cons_of_mem _ hz)) h2]
theorem ne_rs : ¬ ("row" : Str) = ("set" : Str) := by decide +kernel
theorem vT_inj {v : Val} : ∀ {u : Val}, vT v = vT u → v = u := by
  induction v using Val.ind with
  | hw s => intro u h; cases u <;> simp [vT, rT] at h; rw [h]
  | hp r =>
    intro u h
    cases u with
    | word s => simp [vT, rT] at h
    | pt s => rw [vT, vT] at h; rw [rT_inj h]
    | row us => simp [vT, rT] at h
    | set ps ms => simp [vT, rT] at h
  | hr vs ih =>
    intro u h
    cases u with
    | word s => simp [vT, rT] at h
    | pt s => simp [vT, rT] at h
    | row us =>
      rw [vT_row, vT_row] at h
      injection h with h
      injection h with _ h
      rw [map_inj_of (fun x hx y => ih x hx) h]
    | set ps ms =>
      rw [vT_row, vT_set] at h
      injection h with h
      injection h with h _
      injection h with h
      exact absurd h ne_rs
  | hs ps ms ih =>
    intro u h
    cases u with
    | word s => simp [vT, rT] at h
    | pt s => simp [vT, rT] at h
    | row us =>
      rw [vT_row, vT_set] at h
      injection h with h
      injection h with h _
      injection h with h
      exact absurd h.symm ne_rs
    | set qs ns =>
      rw [vT_set, vT_set] at h
      injection h with h
      injection h with _ h
      injection h with h1 h2
      injection h1 with h1
      injection h2 with h2 _
      injection h2 with h2
      rw [map_inj_of (fun x _ y => rT_inj) h1, map_inj_of (fun x hx y => ih x hx) h2]
open Classical in
noncomputable def keyV (t : T) : Str := if h : ∃ v, vT v = t then txt h.choose else ""
theorem keyV_at (v : Val) : keyV (vT v) = txt v := by
  have h : ∃ u, vT u = vT v := ⟨v, rfl⟩
  unfold keyV
  rw [dif_pos h, vT_inj h.choose_spec]
/-! ### ends -/
def sp_lends : VSp := fun ds Q _ => ∃ olds news fur : List Rat, ds = [.lst (olds.map rT), .lst (news.map rT), .lst (fur.map rT)] ∧ (∀ r ∈ olds, bd 1000 r) ∧ (∀ r ∈ news, bd 400 r) ∧ (∀ r ∈ fur, bd 1000 r) ∧ olds.length = news.length ∧ olds.length ≤ 2000 ∧ fur.length ≤ 1000 ∧
  Q (.tup [.lst ((endsO olds fur).map rT), .lst ((endsN olds news fur).map rT)])
theorem sprs_succ {olds news fur : List Rat} {m : Nat} : sprs olds news fur (m + 1) = sprs olds news fur m ++ spr news m (fur.filter fun x => decide (gapn olds x = m)).length := by
  unfold sprs
  rw [List.range_succ, List.flatMap_append]
  simp
theorem sprs_le {olds news fur : List Rat} : ∀ {m n : Nat}, m ≤ n → (sprs olds news fur m).length ≤ (sprs olds news fur n).length := by
  intro m n h
  induction n with
  | zero => obtain rfl : m = 0 := by omega
            exact Nat.le_refl _
  | succ n ih =>
    rcases Nat.lt_or_eq_of_le h with z | z
    · rw [sprs_succ, List.length_append]
      have := ih (by omega)
      omega
    · rw [z]; exact Nat.le_refl _
theorem filt_sym {olds : List Rat} {g : Nat} {fur : List Rat} : (fur.filter fun x => decide ((gapn olds x : Int) = (g : Int))) = fur.filter fun x => decide (gapn olds x = g) := by
  refine List.filter_congr fun x _ => ?_
  rw [decide_eq_decide]
  omega
theorem ws_l_ends {G : Gt} (h1 : G "_law_gap" = some ⟨2, 0, sp_lgap⟩) (h2 : G "_law_spread" = some ⟨3, 0, sp_lspread⟩) (h3 : G "_law_ascending" = some ⟨1, 0, sp_asc⟩) (ds : List T) (Q : T → Prop) (E : Ex → Prop) (h : sp_lends ds Q E) :
    wSs G b_l_ends (L3.startT ["_law_olds", "_law_news", "_law_further", "_law_found", "_law_gap_here", "_law_many", "_law_one"] ds) (endsOf 0 Q E) := by
  obtain ⟨olds, news, fur, rfl, bo, bn, bf, hl, hlo, hlf, q⟩ := h
  simp only [b_l_ends, wSs, wS, w, mk, bOf, wEs, wXs, wP, wI, wIfs, wAnd, wOr, rd, L3.startT, frz, frz1, List.foldl, List.map, List.length, endsOf, List.cons_append, List.nil_append, List.replicate, List.set, Co.w, Bo.w, Bf.w, wCmp, wGcd, wFdv, wNeg, wMul, wAdd, wSub, wMod, wPar, Ms.fl, wMs, setM, Tg.w, wTup_cons, wTup_nil, wLcE, wF, List.getElem?_cons_zero, List.getElem?_cons_succ, List.set_cons_zero, List.set_cons_succ, Nat.reduceSub, Nat.reduceAdd, List.length_cons, List.length_nil, List.map_cons, List.map_nil, List.foldl_nil, List.replicate_succ, List.replicate_zero, Nat.reduceEqDiff, if_false, if_true, T.bl.injEq, T.int.injEq, T.str.injEq, T.tup.injEq, T.lst.injEq, exists_eq_left', true_or, and_true, true_and, reduceCtorEq, reduceIte, decide_eq_true_eq, seqT, Option.some.injEq, wipeT, wRev, wSl, false_or, or_true, bneF, bneT, Int.toNat_natCast, okB_int, okB_non, okB_rT, okB_rTs, okB_rTt, ownL, wLt, wIn, inT_rTs, okE_int, okE_str, okE_rT, okE_rTs, okE_rTt, okE_nil, tyIs, wListF, wCatF, timesT, wZip]
  rw [List.length_map]
  refine ⟨by omega, by omega, ?_⟩
  refine wFor_inv (fun i ρ => ∃ x4 x5 x6, ρ = [.sh (.lst (olds.map rT)), .sh (.lst (news.map rT)), .sh (.lst (fur.map rT)), .sh (.lst ((news ++ sprs olds news fur i).map rT)), x4, x5, x6]) ⟨.un, .un, .un, by simp [sprs]⟩ ?_ ?_
  · rintro i d ρ K hd ⟨x4, x5, x6, rfl⟩ hK
    obtain ⟨hi, rfl⟩ := rangeT_at hd
    have hi' : i ≤ olds.length := by omega
    simp only [b_l_ends_3, wSs, wS, w, mk, bOf, wEs, wXs, wP, wI, wIfs, wAnd, wOr, rd, L3.startT, frz, frz1, List.foldl, List.map, List.length, endsOf, List.cons_append, List.nil_append, List.replicate, List.set, Co.w, Bo.w, Bf.w, wCmp, wGcd, wFdv, wNeg, wMul, wAdd, wSub, wMod, wPar, Ms.fl, wMs, setM, Tg.w, wTup_cons, wTup_nil, wLcE, wF, List.getElem?_cons_zero, List.getElem?_cons_succ, List.set_cons_zero, List.set_cons_succ, Nat.reduceSub, Nat.reduceAdd, List.length_cons, List.length_nil, List.map_cons, List.map_nil, List.foldl_nil, List.replicate_succ, List.replicate_zero, Nat.reduceEqDiff, if_false, if_true, T.bl.injEq, T.int.injEq, T.str.injEq, T.tup.injEq, T.lst.injEq, exists_eq_left', true_or, and_true, true_and, reduceCtorEq, reduceIte, decide_eq_true_eq, seqT, Option.some.injEq, wipeT, wRev, wSl, false_or, or_true, bneF, bneT, Int.toNat_natCast, okB_int, okB_non, okB_rT, okB_rTs, okB_rTt, ownL, wLt, wIn, inT_rTs, okE_int, okE_str, okE_rT, okE_rTs, okE_rTt, okE_nil, tyIs, wListF, wCatF, timesT, wZip]
    refine wLc_over (f0 := rT) (p := fun x => decide (gapn olds x = i)) (F := rT) fur [] (by rw [List.length_nil, Nat.zero_add]; exact small5000 (by omega)) (fun z hz KK K' N k1 k2 => ?_) ?_
    · simp only [e_l_ends_1, es_l_ends_2, wCall_of h1, wEq, eqT_int, wSs, wS, w, mk, bOf, wEs, wXs, wP, wI, wIfs, wAnd, wOr, rd, L3.startT, frz, frz1, List.foldl, List.map, List.length, endsOf, List.cons_append, List.nil_append, List.replicate, List.set, Co.w, Bo.w, Bf.w, wCmp, wGcd, wFdv, wNeg, wMul, wAdd, wSub, wMod, wPar, Ms.fl, wMs, setM, Tg.w, wTup_cons, wTup_nil, wLcE, wF, List.getElem?_cons_zero, List.getElem?_cons_succ, List.set_cons_zero, List.set_cons_succ, Nat.reduceSub, Nat.reduceAdd, List.length_cons, List.length_nil, List.map_cons, List.map_nil, List.foldl_nil, List.replicate_succ, List.replicate_zero, Nat.reduceEqDiff, if_false, if_true, T.bl.injEq, T.int.injEq, T.str.injEq, T.tup.injEq, T.lst.injEq, exists_eq_left', true_or, and_true, true_and, reduceCtorEq, reduceIte, decide_eq_true_eq, seqT, Option.some.injEq, wipeT, wRev, wSl, false_or, or_true, bneF, bneT, Int.toNat_natCast, okB_int, okB_non, okB_rT, okB_rTs, okB_rTt, ownL, wLt, wIn, inT_rTs, okE_int, okE_str, okE_rT, okE_rTs, okE_rTt, okE_nil, tyIs, wListF, wCatF, timesT, wZip]
      refine ⟨olds, z, rfl, bo, bf z hz, by omega, ?_⟩
      refine ⟨rfl, ?_⟩
      rw [L3.eqT_int]
      by_cases hg : gapn olds z = i
      · rw [if_pos (decide_eq_true (by omega))]; exact k1 (by simpa using hg)
      · rw [if_neg (by simpa using fun (q : (gapn olds z : Int) = 0 + (i : Int)) => hg (by omega))]; exact k2 (by simpa using hg)
    · simp only [wCall_of h2, wSs, wS, w, mk, bOf, wEs, wXs, wP, wI, wIfs, wAnd, wOr, rd, L3.startT, frz, frz1, List.foldl, List.map, List.length, endsOf, List.cons_append, List.nil_append, List.replicate, List.set, Co.w, Bo.w, Bf.w, wCmp, wGcd, wFdv, wNeg, wMul, wAdd, wSub, wMod, wPar, Ms.fl, wMs, setM, Tg.w, wTup_cons, wTup_nil, wLcE, wF, List.getElem?_cons_zero, List.getElem?_cons_succ, List.set_cons_zero, List.set_cons_succ, Nat.reduceSub, Nat.reduceAdd, List.length_cons, List.length_nil, List.map_cons, List.map_nil, List.foldl_nil, List.replicate_succ, List.replicate_zero, Nat.reduceEqDiff, if_false, if_true, T.bl.injEq, T.int.injEq, T.str.injEq, T.tup.injEq, T.lst.injEq, exists_eq_left', true_or, and_true, true_and, reduceCtorEq, reduceIte, decide_eq_true_eq, seqT, Option.some.injEq, wipeT, wRev, wSl, false_or, or_true, bneF, bneT, Int.toNat_natCast, okB_int, okB_non, okB_rT, okB_rTs, okB_rTt, ownL, wLt, wIn, inT_rTs, okE_int, okE_str, okE_rT, okE_rTs, okE_rTt, okE_nil, tyIs, wListF, wCatF, timesT, wZip, List.length_map]
      have hn : (fur.filter fun x => decide (gapn olds x = i)).length ≤ 1000 := Nat.le_trans (List.length_filter_le _ _) hlf
      refine ⟨news, i, _, by rw [Int.zero_add], bn, by omega, by omega, hn, ?_⟩
      have hb := sprs_le (olds := olds) (news := news) (fur := fur) (m := i + 1) (n := olds.length + 1) (by omega)
      rw [sprs_len, sprs_succ, List.length_append] at hb
      refine ⟨Nat.le_of_lt (small5000 (by rw [List.length_map, List.length_map, List.length_append]; omega)), ?_⟩
      rw [show (news ++ sprs olds news fur i).map rT ++ (spr news i (fur.filter fun x => decide (gapn olds x = i)).length).map rT = (news ++ sprs olds news fur (i + 1)).map rT by rw [sprs_succ, ← List.append_assoc, ← List.map_append]]
      exact hK _ ⟨_, _, _, rfl⟩
  · rintro ρ ⟨x4, x5, x6, rfl⟩
    simp only [wCall_of h3, wSs, wS, w, mk, bOf, wEs, wXs, wP, wI, wIfs, wAnd, wOr, rd, L3.startT, frz, frz1, List.foldl, List.map, List.length, endsOf, List.cons_append, List.nil_append, List.replicate, List.set, Co.w, Bo.w, Bf.w, wCmp, wGcd, wFdv, wNeg, wMul, wAdd, wSub, wMod, wPar, Ms.fl, wMs, setM, Tg.w, wTup_cons, wTup_nil, wLcE, wF, List.getElem?_cons_zero, List.getElem?_cons_succ, List.set_cons_zero, List.set_cons_succ, Nat.reduceSub, Nat.reduceAdd, List.length_cons, List.length_nil, List.map_cons, List.map_nil, List.foldl_nil, List.replicate_succ, List.replicate_zero, Nat.reduceEqDiff, if_false, if_true, T.bl.injEq, T.int.injEq, T.str.injEq, T.tup.injEq, T.lst.injEq, exists_eq_left', true_or, and_true, true_and, reduceCtorEq, reduceIte, decide_eq_true_eq, seqT, Option.some.injEq, wipeT, wRev, wSl, false_or, or_true, bneF, bneT, Int.toNat_natCast, okB_int, okB_non, okB_rT, okB_rTs, okB_rTt, ownL, wLt, wIn, inT_rTs, okE_int, okE_str, okE_rT, okE_rTs, okE_rTt, okE_nil, tyIs, wListF, wCatF, timesT, wZip]
    rw [rangeT_len]
    have e : ((olds.length : Int) + 1).toNat = olds.length + 1 := by omega
    rw [e]
    have hb := sprs_len (olds := olds) (news := news) (fur := fur)
    refine ⟨by rw [List.length_map, List.length_map]; exact Nat.le_of_lt (small5000 (by omega)), olds ++ fur, by rw [List.map_append], fun r hr => (List.mem_append.mp hr).elim (bo r) (bf r), by rw [List.length_append]; omega, news ++ sprs olds news fur (olds.length + 1), rfl, fun r hr => ?_, by rw [List.length_append]; omega, by decide, q⟩
    rcases List.mem_append.mp hr with z | z
    · exact (bn r z).mono (by decide)
    · unfold sprs at z
      obtain ⟨g, hg, hr⟩ := List.mem_flatMap.mp z
      rw [List.mem_range] at hg
      exact (bits_spr (k := 400) (by decide) bn (by omega) (Nat.le_trans (List.length_filter_le _ _) hlf) r hr).mono (by decide)
end LawP

set_option exponentiation.threshold 4000
/-! LW4: words of the laws' own helpers: moved, placed. -/
namespace LawP
open PySem PySem.Spec PyProof.Rows L2 L3

theorem index_pts {olds : List Rat} {r : Rat} {Q : T → Prop} (h : r ∈ olds) (q : Q (.int ((olds.idxOf r : Nat) : Int))) : wIndex (.lst (olds.map rT)) (rT r) Q := by
  have hl := List.idxOf_lt_length_of_mem h
  have e : olds[olds.idxOf r] = r := List.getElem_idxOf hl
  refine ⟨_, rfl, okB_rTs, okB_rT, olds.idxOf r, rT r, by rw [List.getElem?_map, List.getElem?_eq_getElem hl, e]; rfl, by rw [eqT_rT]; simp, fun m z hm hz => ?_, q⟩
  rw [List.getElem?_map] at hz
  obtain ⟨s, hs, rfl⟩ := Option.map_eq_some_iff.mp hz
  rw [eqT_rT, decide_eq_false_iff_not]
  intro z
  have h2 : m < olds.length := (List.getElem?_eq_some_iff.mp hs).1
  have h3 : olds[m] = s := (List.getElem?_eq_some_iff.mp hs).2
  have h4 := List.not_of_lt_findIdx (p := (· == r)) (xs := olds) (i := m) (by simpa [List.idxOf] using hm)
  rw [h3, z] at h4
  simp at h4
theorem inT_pts {r : Rat} {rs : List Rat} : inT (rT r) (rs.map rT) = decide (r ∈ rs) := inT_rTs
def sp_lmoved (d : Nat) : VSp := fun ds Q _ => ∃ (v : Val) (olds news : List Rat) (k : Nat), ds = [vT v, .lst (olds.map rT), .lst (news.map rT)] ∧ MvOk v olds news ∧ BV k v ∧ 1 ≤ k ∧ (k + 12) * 2 ^ dep v ≤ 800 ∧ vsz v ≤ 1000 ∧ (∀ r ∈ news, bd k r) ∧ olds.length ≤ 3000 ∧ dep v < d ∧ Q (vT (mvd v olds news))
theorem furth_filt {ps : List Rat} {v : Val} : (supp v).filter (fun r => !decide (r ∈ ps)) = furth ps v := rfl
theorem fit_in8 {k n m : Nat} (h : (k + 12) * 2 ^ (1 + n) ≤ 800) (hm : m ≤ n) : (2 * k + 12 + 12) * 2 ^ m ≤ 800 := by
  have e : (2 * k + 12 + 12) * 2 ^ m = (k + 12) * 2 ^ (1 + m) := by rw [Nat.pow_add]; rw [← Nat.mul_assoc]; congr 1; omega
  rw [e]
  exact Nat.le_trans (Nat.mul_le_mul_left _ (Nat.pow_le_pow_right (by decide) (by omega))) h
theorem ws_l_moved {G : Gt} {d D : Nat} (hD : d ≤ D) (hm : G "_law_moved" = some ⟨3, 0, sp_lmoved d⟩) (hs : G "_law_support" = some ⟨1, 0, sp_lsupp D⟩) (he : G "_law_ends" = some ⟨3, 0, sp_lends⟩) (ht : G "_law_text" = some ⟨1, 0, sp_ltext D⟩)
    (ds : List T) (Q : T → Prop) (E : Ex → Prop) (h : sp_lmoved (d + 1) ds Q E) :
    wSs G b_l_moved (L3.startT ["_law_value", "_law_olds", "_law_news", "_law_part", "_law_points", "_law_found", "_law_one", "_law_member", "_law_further", "_law_ends_here"] ds) (endsOf 0 Q E) := by
  obtain ⟨v, olds, news, k, rfl, ok, hb, hk1, hk, hz, hn, hl, hd, q⟩ := h
  cases v with
  | word s =>
    rw [mvd] at q
    rw [vT] at q
    simp only [b_l_moved, vT, wSs, wS, w, mk, bOf, wEs, wXs, wP, wI, wIfs, wAnd, wOr, rd, L3.startT, frz, frz1, List.foldl, List.map, List.length, endsOf, List.cons_append, List.nil_append, List.replicate, List.set, Co.w, Bo.w, Bf.w, wCmp, wGcd, wFdv, wNeg, wMul, wAdd, wSub, wMod, wPar, Ms.fl, wMs, setM, Tg.w, wTup_cons, wTup_nil, wLcE, wF, List.getElem?_cons_zero, List.getElem?_cons_succ, List.set_cons_zero, List.set_cons_succ, Nat.reduceSub, Nat.reduceAdd, List.length_cons, List.length_nil, List.map_cons, List.map_nil, List.foldl_nil, List.replicate_succ, List.replicate_zero, Nat.reduceEqDiff, if_false, if_true, T.bl.injEq, T.int.injEq, T.str.injEq, T.tup.injEq, T.lst.injEq, exists_eq_left', true_or, and_true, true_and, reduceCtorEq, reduceIte, decide_eq_true_eq, seqT, Option.some.injEq, wipeT, wRev, wSl, false_or, or_true, bneF, bneT, Int.toNat_natCast, okB_int, okB_non, okB_rT, okB_rTs, okB_rTt, ownL, wLt, wIn, inT_rTs, okE_int, okE_str, okE_rT, okE_rTs, okE_rTt, okE_nil, tyIs, wListF, wCatF, timesT, wZip]
    exact q
  | pt r =>
    have hr : r ∈ olds := ok.sub r (by rw [supp]; exact List.mem_singleton.mpr rfl)
    rw [mvd, vT] at q
    simp only [b_l_moved, vT, wEq, wSs, wS, w, mk, bOf, wEs, wXs, wP, wI, wIfs, wAnd, wOr, rd, L3.startT, frz, frz1, List.foldl, List.map, List.length, endsOf, List.cons_append, List.nil_append, List.replicate, List.set, Co.w, Bo.w, Bf.w, wCmp, wGcd, wFdv, wNeg, wMul, wAdd, wSub, wMod, wPar, Ms.fl, wMs, setM, Tg.w, wTup_cons, wTup_nil, wLcE, wF, List.getElem?_cons_zero, List.getElem?_cons_succ, List.set_cons_zero, List.set_cons_succ, Nat.reduceSub, Nat.reduceAdd, List.length_cons, List.length_nil, List.map_cons, List.map_nil, List.foldl_nil, List.replicate_succ, List.replicate_zero, Nat.reduceEqDiff, if_false, if_true, T.bl.injEq, T.int.injEq, T.str.injEq, T.tup.injEq, T.lst.injEq, exists_eq_left', true_or, and_true, true_and, reduceCtorEq, reduceIte, decide_eq_true_eq, seqT, Option.some.injEq, wipeT, wRev, wSl, false_or, or_true, bneF, bneT, Int.toNat_natCast, okB_int, okB_non, okB_rT, okB_rTs, okB_rTt, ownL, wLt, wIn, inT_rTs, okE_int, okE_str, okE_rT, okE_rTs, okE_rTt, okE_nil, tyIs, wListF, wCatF, timesT, wZip]
    rw [show rT r = .tup [.int r.num, .int r.den] from rfl]
    simp only [wIx, atC0, eq_is, okE_is ok_set, okE_is ok_row, Bool.false_eq_true, Bool.not_false, wSs, wS, w, mk, bOf, wEs, wXs, wP, wI, wIfs, wAnd, wOr, rd, L3.startT, frz, frz1, List.foldl, List.map, List.length, endsOf, List.cons_append, List.nil_append, List.replicate, List.set, Co.w, Bo.w, Bf.w, wCmp, wGcd, wFdv, wNeg, wMul, wAdd, wSub, wMod, wPar, Ms.fl, wMs, setM, Tg.w, wTup_cons, wTup_nil, wLcE, wF, List.getElem?_cons_zero, List.getElem?_cons_succ, List.set_cons_zero, List.set_cons_succ, Nat.reduceSub, Nat.reduceAdd, List.length_cons, List.length_nil, List.map_cons, List.map_nil, List.foldl_nil, List.replicate_succ, List.replicate_zero, Nat.reduceEqDiff, if_false, if_true, T.bl.injEq, T.int.injEq, T.str.injEq, T.tup.injEq, T.lst.injEq, exists_eq_left', true_or, and_true, true_and, reduceCtorEq, reduceIte, decide_eq_true_eq, seqT, Option.some.injEq, wipeT, wRev, wSl, false_or, or_true, bneF, bneT, Int.toNat_natCast, okB_int, okB_non, okB_rT, okB_rTs, okB_rTt, ownL, wLt, wIn, inT_rTs, okE_int, okE_str, okE_rT, okE_rTs, okE_rTt, okE_nil, tyIs, wListF, wCatF, timesT, wZip]
    refine ⟨⟨_, rfl⟩, ?_⟩
    refine index_pts (r := r) hr ?_
    simp only [wIx, wSs, wS, w, mk, bOf, wEs, wXs, wP, wI, wIfs, wAnd, wOr, rd, L3.startT, frz, frz1, List.foldl, List.map, List.length, endsOf, List.cons_append, List.nil_append, List.replicate, List.set, Co.w, Bo.w, Bf.w, wCmp, wGcd, wFdv, wNeg, wMul, wAdd, wSub, wMod, wPar, Ms.fl, wMs, setM, Tg.w, wTup_cons, wTup_nil, wLcE, wF, List.getElem?_cons_zero, List.getElem?_cons_succ, List.set_cons_zero, List.set_cons_succ, Nat.reduceSub, Nat.reduceAdd, List.length_cons, List.length_nil, List.map_cons, List.map_nil, List.foldl_nil, List.replicate_succ, List.replicate_zero, Nat.reduceEqDiff, if_false, if_true, T.bl.injEq, T.int.injEq, T.str.injEq, T.tup.injEq, T.lst.injEq, exists_eq_left', true_or, and_true, true_and, reduceCtorEq, reduceIte, decide_eq_true_eq, seqT, Option.some.injEq, wipeT, wRev, wSl, false_or, or_true, bneF, bneT, Int.toNat_natCast, okB_int, okB_non, okB_rT, okB_rTs, okB_rTt, ownL, wLt, wIn, inT_rTs, okE_int, okE_str, okE_rT, okE_rTs, okE_rTt, okE_nil, tyIs, wListF, wCatF, timesT, wZip]
    exact ⟨_, atI_pts (lead_at hr ok.len), q⟩
  | row vs =>
    rw [BV, BVL_iff] at hb
    rw [dep] at hd hk
    rw [vsz] at hz
    have hlen := len_vszL (vs := vs)
    rw [mvd, mvdL_map, vT_row, List.map_map] at q
    simp only [b_l_moved, vT_row, wIx, atC0, wEq, eq_rr, cut1, wSs, wS, w, mk, bOf, wEs, wXs, wP, wI, wIfs, wAnd, wOr, rd, L3.startT, frz, frz1, List.foldl, List.map, List.length, endsOf, List.cons_append, List.nil_append, List.replicate, List.set, Co.w, Bo.w, Bf.w, wCmp, wGcd, wFdv, wNeg, wMul, wAdd, wSub, wMod, wPar, Ms.fl, wMs, setM, Tg.w, wTup_cons, wTup_nil, wLcE, wF, List.getElem?_cons_zero, List.getElem?_cons_succ, List.set_cons_zero, List.set_cons_succ, Nat.reduceSub, Nat.reduceAdd, List.length_cons, List.length_nil, List.map_cons, List.map_nil, List.foldl_nil, List.replicate_succ, List.replicate_zero, Nat.reduceEqDiff, if_false, if_true, T.bl.injEq, T.int.injEq, T.str.injEq, T.tup.injEq, T.lst.injEq, exists_eq_left', true_or, and_true, true_and, reduceCtorEq, reduceIte, decide_eq_true_eq, seqT, Option.some.injEq, wipeT, wRev, wSl, false_or, or_true, bneF, bneT, Int.toNat_natCast, okB_int, okB_non, okB_rT, okB_rTs, okB_rTt, ownL, wLt, wIn, inT_rTs, okE_int, okE_str, okE_rT, okE_rTs, okE_rTt, okE_nil, tyIs, wListF, wCatF, timesT, wZip]
    refine ⟨by decide, ?_⟩
    refine wLc_each (F := fun v => vT (mvd v olds news)) vs (small5000 (by omega)) (fun v hv K K' N kk => ?_) ?_
    · have h1 := dep_mem hv
      have h2 := vsz_mem hv
      simp only [e_l_moved_5, wCall_of hm, wSs, wS, w, mk, bOf, wEs, wXs, wP, wI, wIfs, wAnd, wOr, rd, L3.startT, frz, frz1, List.foldl, List.map, List.length, endsOf, List.cons_append, List.nil_append, List.replicate, List.set, Co.w, Bo.w, Bf.w, wCmp, wGcd, wFdv, wNeg, wMul, wAdd, wSub, wMod, wPar, Ms.fl, wMs, setM, Tg.w, wTup_cons, wTup_nil, wLcE, wF, List.getElem?_cons_zero, List.getElem?_cons_succ, List.set_cons_zero, List.set_cons_succ, Nat.reduceSub, Nat.reduceAdd, List.length_cons, List.length_nil, List.map_cons, List.map_nil, List.foldl_nil, List.replicate_succ, List.replicate_zero, Nat.reduceEqDiff, if_false, if_true, T.bl.injEq, T.int.injEq, T.str.injEq, T.tup.injEq, T.lst.injEq, exists_eq_left', true_or, and_true, true_and, reduceCtorEq, reduceIte, decide_eq_true_eq, seqT, Option.some.injEq, wipeT, wRev, wSl, false_or, or_true, bneF, bneT, Int.toNat_natCast, okB_int, okB_non, okB_rT, okB_rTs, okB_rTt, ownL, wLt, wIn, inT_rTs, okE_int, okE_str, okE_rT, okE_rTs, okE_rTt, okE_nil, tyIs, wListF, wCatF, timesT, wZip]
      exact ⟨v, olds, news, k, rfl, ok.row v hv, hb v hv, hk1, fit_le hk (by omega), by omega, hn, hl, by omega, kk⟩
    · refine ⟨Nat.le_of_lt (small5000 (by simp; omega)), ?_⟩
      exact q
  | set ps ms =>
    rw [BV, BVL_iff] at hb
    rw [dep] at hd hk
    rw [vsz] at hz
    have hlen := len_vszL (vs := ms)
    have hkk : k + 12 ≤ 400 := by
      have := fit_le (m := 1) hk (by omega)
      omega
    have hps : ∀ r ∈ ps, r ∈ olds := fun r hr => ok.sub r (by rw [supp]; exact hr)
    rw [mvd, vT_set] at q
    simp only [b_l_moved, vT_set, wIx, atC0, atC1, atC2, wEq, eq_sr, eq_ss, Bool.false_eq_true, wSs, wS, w, mk, bOf, wEs, wXs, wP, wI, wIfs, wAnd, wOr, rd, L3.startT, frz, frz1, List.foldl, List.map, List.length, endsOf, List.cons_append, List.nil_append, List.replicate, List.set, Co.w, Bo.w, Bf.w, wCmp, wGcd, wFdv, wNeg, wMul, wAdd, wSub, wMod, wPar, Ms.fl, wMs, setM, Tg.w, wTup_cons, wTup_nil, wLcE, wF, List.getElem?_cons_zero, List.getElem?_cons_succ, List.set_cons_zero, List.set_cons_succ, Nat.reduceSub, Nat.reduceAdd, List.length_cons, List.length_nil, List.map_cons, List.map_nil, List.foldl_nil, List.replicate_succ, List.replicate_zero, Nat.reduceEqDiff, if_false, if_true, T.bl.injEq, T.int.injEq, T.str.injEq, T.tup.injEq, T.lst.injEq, exists_eq_left', true_or, and_true, true_and, reduceCtorEq, reduceIte, decide_eq_true_eq, seqT, Option.some.injEq, wipeT, wRev, wSl, false_or, or_true, bneF, bneT, Int.toNat_natCast, okB_int, okB_non, okB_rT, okB_rTs, okB_rTt, ownL, wLt, wIn, inT_rTs, okE_int, okE_str, okE_rT, okE_rTs, okE_rTt, okE_nil, tyIs, wListF, wCatF, timesT, wZip]
    refine wLc_each (f0 := rT) (F := fun r => rT (lead olds news r)) ps (small5000 (by omega)) (fun r hr K K' N kk => ?_) ?_
    · simp only [e_l_moved_4, wSs, wS, w, mk, bOf, wEs, wXs, wP, wI, wIfs, wAnd, wOr, rd, L3.startT, frz, frz1, List.foldl, List.map, List.length, endsOf, List.cons_append, List.nil_append, List.replicate, List.set, Co.w, Bo.w, Bf.w, wCmp, wGcd, wFdv, wNeg, wMul, wAdd, wSub, wMod, wPar, Ms.fl, wMs, setM, Tg.w, wTup_cons, wTup_nil, wLcE, wF, List.getElem?_cons_zero, List.getElem?_cons_succ, List.set_cons_zero, List.set_cons_succ, Nat.reduceSub, Nat.reduceAdd, List.length_cons, List.length_nil, List.map_cons, List.map_nil, List.foldl_nil, List.replicate_succ, List.replicate_zero, Nat.reduceEqDiff, if_false, if_true, T.bl.injEq, T.int.injEq, T.str.injEq, T.tup.injEq, T.lst.injEq, exists_eq_left', true_or, and_true, true_and, reduceCtorEq, reduceIte, decide_eq_true_eq, seqT, Option.some.injEq, wipeT, wRev, wSl, false_or, or_true, bneF, bneT, Int.toNat_natCast, okB_int, okB_non, okB_rT, okB_rTs, okB_rTt, ownL, wLt, wIn, inT_rTs, okE_int, okE_str, okE_rT, okE_rTs, okE_rTt, okE_nil, tyIs, wListF, wCatF, timesT, wZip]
      refine ⟨⟨_, rfl⟩, ?_⟩
      refine index_pts (r := r) (hps r hr) ?_
      simp only [wIx, wSs, wS, w, mk, bOf, wEs, wXs, wP, wI, wIfs, wAnd, wOr, rd, L3.startT, frz, frz1, List.foldl, List.map, List.length, endsOf, List.cons_append, List.nil_append, List.replicate, List.set, Co.w, Bo.w, Bf.w, wCmp, wGcd, wFdv, wNeg, wMul, wAdd, wSub, wMod, wPar, Ms.fl, wMs, setM, Tg.w, wTup_cons, wTup_nil, wLcE, wF, List.getElem?_cons_zero, List.getElem?_cons_succ, List.set_cons_zero, List.set_cons_succ, Nat.reduceSub, Nat.reduceAdd, List.length_cons, List.length_nil, List.map_cons, List.map_nil, List.foldl_nil, List.replicate_succ, List.replicate_zero, Nat.reduceEqDiff, if_false, if_true, T.bl.injEq, T.int.injEq, T.str.injEq, T.tup.injEq, T.lst.injEq, exists_eq_left', true_or, and_true, true_and, reduceCtorEq, reduceIte, decide_eq_true_eq, seqT, Option.some.injEq, wipeT, wRev, wSl, false_or, or_true, bneF, bneT, Int.toNat_natCast, okB_int, okB_non, okB_rT, okB_rTs, okB_rTt, ownL, wLt, wIn, inT_rTs, okE_int, okE_str, okE_rT, okE_rTs, okE_rTt, okE_nil, tyIs, wListF, wCatF, timesT, wZip]
      exact ⟨_, atI_pts (lead_at (hps r hr) ok.len), kk⟩
    rw [show (ps.map fun r => rT (lead olds news r)) = (ps.map (lead olds news)).map rT by rw [List.map_map]; rfl]
    have led : ∀ r ∈ ps.map (lead olds news), bd k r := fun r hr => by
      obtain ⟨s, hs, rfl⟩ := List.mem_map.mp hr
      exact hn _ (lead_mem (hps s hs) ok.len)
    have hok := ok.set
    generalize hled : ps.map (lead olds news) = ls at *
    have hll : ps.length = ls.length := by rw [← hled, List.length_map]
    refine ⟨Nat.zero_le _, ?_⟩
    refine wFor_inv (fun i ρ => ∃ x6 x7 x8 x9, ρ = [.sh (.tup [.str "set", .tup (ps.map rT), .tup (ms.map vT)]), .sh (.lst (olds.map rT)), .sh (.lst (news.map rT)), .un, .sh (.lst (ls.map rT)), .own 1 (.lst ((mvdM ps ls (ms.take i)).map vT)), x6, x7, x8, x9]) ⟨_, _, _, _, rfl⟩ ?_ ?_
    · rintro i d0 ρ K hd0 ⟨x6, x7, x8, x9, rfl⟩ hK
      rw [List.getElem?_map] at hd0
      obtain ⟨m, hm', rfl⟩ := Option.map_eq_some_iff.mp hd0
      have hmm := List.mem_of_getElem? hm'
      have h1 := dep_mem hmm
      have h2 := vsz_mem hmm
      have hbm := hb.2 m hmm
      have hlt : i < ms.length := (List.getElem?_eq_some_iff.mp hm').1
      have bsup : ∀ r ∈ supp m, bd 1000 r := fun r hr => (hbm.supp r hr).mono (by omega)
      have hfl := furth_len (ps := ps) (v := m)
      have hsl := supp_len m
      simp only [b_l_moved_3, wCall_of hs, wIx, atC1, wSs, wS, w, mk, bOf, wEs, wXs, wP, wI, wIfs, wAnd, wOr, rd, L3.startT, frz, frz1, List.foldl, List.map, List.length, endsOf, List.cons_append, List.nil_append, List.replicate, List.set, Co.w, Bo.w, Bf.w, wCmp, wGcd, wFdv, wNeg, wMul, wAdd, wSub, wMod, wPar, Ms.fl, wMs, setM, Tg.w, wTup_cons, wTup_nil, wLcE, wF, List.getElem?_cons_zero, List.getElem?_cons_succ, List.set_cons_zero, List.set_cons_succ, Nat.reduceSub, Nat.reduceAdd, List.length_cons, List.length_nil, List.map_cons, List.map_nil, List.foldl_nil, List.replicate_succ, List.replicate_zero, Nat.reduceEqDiff, if_false, if_true, T.bl.injEq, T.int.injEq, T.str.injEq, T.tup.injEq, T.lst.injEq, exists_eq_left', true_or, and_true, true_and, reduceCtorEq, reduceIte, decide_eq_true_eq, seqT, Option.some.injEq, wipeT, wRev, wSl, false_or, or_true, bneF, bneT, Int.toNat_natCast, okB_int, okB_non, okB_rT, okB_rTs, okB_rTt, ownL, wLt, wIn, inT_rTs, okE_int, okE_str, okE_rT, okE_rTs, okE_rTt, okE_nil, tyIs, wListF, wCatF, timesT, wZip]
      refine ⟨m, rfl, hbm.mono (by omega), by omega, by omega, ?_⟩
      refine ⟨_, rfl, ?_⟩
      refine wLc_over (f0 := rT) (p := fun r => !decide (r ∈ ps)) (F := rT) (supp m) [] (by rw [List.length_nil, Nat.zero_add]; exact small5000 (by omega)) (fun z hz' KK K' N k1 k2 => ?_) ?_
      · simp only [e_l_moved_1, es_l_moved_2, wIx, atC1, wSs, wS, w, mk, bOf, wEs, wXs, wP, wI, wIfs, wAnd, wOr, rd, L3.startT, frz, frz1, List.foldl, List.map, List.length, endsOf, List.cons_append, List.nil_append, List.replicate, List.set, Co.w, Bo.w, Bf.w, wCmp, wGcd, wFdv, wNeg, wMul, wAdd, wSub, wMod, wPar, Ms.fl, wMs, setM, Tg.w, wTup_cons, wTup_nil, wLcE, wF, List.getElem?_cons_zero, List.getElem?_cons_succ, List.set_cons_zero, List.set_cons_succ, Nat.reduceSub, Nat.reduceAdd, List.length_cons, List.length_nil, List.map_cons, List.map_nil, List.foldl_nil, List.replicate_succ, List.replicate_zero, Nat.reduceEqDiff, if_false, if_true, T.bl.injEq, T.int.injEq, T.str.injEq, T.tup.injEq, T.lst.injEq, exists_eq_left', true_or, and_true, true_and, reduceCtorEq, reduceIte, decide_eq_true_eq, seqT, Option.some.injEq, wipeT, wRev, wSl, false_or, or_true, bneF, bneT, Int.toNat_natCast, okB_int, okB_non, okB_rT, okB_rTs, okB_rTt, ownL, wLt, wIn, inT_rTs, okE_int, okE_str, okE_rT, okE_rTs, okE_rTt, okE_nil, tyIs, wListF, wCatF, timesT, wZip]
        by_cases hg : z ∈ ps
        · simp only [hg, decide_true, Bool.not_true, Bool.false_eq_true, if_false]; exact k2 (by simpa using hg)
        · simp only [hg, decide_false, Bool.not_false, if_true]; exact k1 (by simpa using hg)
      · simp only [furth_filt, wCall_of he, wCall_of hm, wIx, atC0, atC1, wSs, wS, w, mk, bOf, wEs, wXs, wP, wI, wIfs, wAnd, wOr, rd, L3.startT, frz, frz1, List.foldl, List.map, List.length, endsOf, List.cons_append, List.nil_append, List.replicate, List.set, Co.w, Bo.w, Bf.w, wCmp, wGcd, wFdv, wNeg, wMul, wAdd, wSub, wMod, wPar, Ms.fl, wMs, setM, Tg.w, wTup_cons, wTup_nil, wLcE, wF, List.getElem?_cons_zero, List.getElem?_cons_succ, List.set_cons_zero, List.set_cons_succ, Nat.reduceSub, Nat.reduceAdd, List.length_cons, List.length_nil, List.map_cons, List.map_nil, List.foldl_nil, List.replicate_succ, List.replicate_zero, Nat.reduceEqDiff, if_false, if_true, T.bl.injEq, T.int.injEq, T.str.injEq, T.tup.injEq, T.lst.injEq, exists_eq_left', true_or, and_true, true_and, reduceCtorEq, reduceIte, decide_eq_true_eq, seqT, Option.some.injEq, wipeT, wRev, wSl, false_or, or_true, bneF, bneT, Int.toNat_natCast, okB_int, okB_non, okB_rT, okB_rTs, okB_rTt, ownL, wLt, wIn, inT_rTs, okE_int, okE_str, okE_rT, okE_rTs, okE_rTt, okE_nil, tyIs, wListF, wCatF, timesT, wZip]
        refine ⟨ps, ls, furth ps m, rfl, fun r hr => (hb.1 r hr).mono (by omega), fun r hr => (led r hr).mono (by omega), fun r hr => bsup r (furth_in r hr), hll, by omega, by omega, ?_⟩
        have eN := endsN_bits (olds := ps) (news := ls) (fur := furth ps m) hk1 led hll (by omega)
        have eL : (endsO ps (furth ps m)).length ≤ 3000 := by
          have := asc_len_le (l := ps ++ furth ps m)
          rw [List.length_append] at this
          unfold endsO
          omega
        simp only [wIx, atC0, atC1, wSs, wS, w, mk, bOf, wEs, wXs, wP, wI, wIfs, wAnd, wOr, rd, L3.startT, frz, frz1, List.foldl, List.map, List.length, endsOf, List.cons_append, List.nil_append, List.replicate, List.set, Co.w, Bo.w, Bf.w, wCmp, wGcd, wFdv, wNeg, wMul, wAdd, wSub, wMod, wPar, Ms.fl, wMs, setM, Tg.w, wTup_cons, wTup_nil, wLcE, wF, List.getElem?_cons_zero, List.getElem?_cons_succ, List.set_cons_zero, List.set_cons_succ, Nat.reduceSub, Nat.reduceAdd, List.length_cons, List.length_nil, List.map_cons, List.map_nil, List.foldl_nil, List.replicate_succ, List.replicate_zero, Nat.reduceEqDiff, if_false, if_true, T.bl.injEq, T.int.injEq, T.str.injEq, T.tup.injEq, T.lst.injEq, exists_eq_left', true_or, and_true, true_and, reduceCtorEq, reduceIte, decide_eq_true_eq, seqT, Option.some.injEq, wipeT, wRev, wSl, false_or, or_true, bneF, bneT, Int.toNat_natCast, okB_int, okB_non, okB_rT, okB_rTs, okB_rTt, ownL, wLt, wIn, inT_rTs, okE_int, okE_str, okE_rT, okE_rTs, okE_rTt, okE_nil, tyIs, wListF, wCatF, timesT, wZip]
        refine ⟨m, _, _, 2 * k + 12, rfl, hok m hmm, hbm, by omega, fit_in8 hk h1, by omega, eN, eL, by omega, ?_⟩
        have ea : mvdM ps ls (ms.take (i + 1)) = mvdM ps ls (ms.take i) ++ [mvd m (endsO ps (furth ps m)) (endsN ps ls (furth ps m))] := by
          rw [mvdM_map, mvdM_map, List.take_add_one, hm', List.map_append]
          rfl
        refine ⟨?_, ?_⟩
        · rw [List.length_map, mvdM_map, List.length_map, List.length_take]
          exact small5000 (by omega)
        · rw [show (mvdM ps ls (ms.take i)).map vT ++ [vT (mvd m (endsO ps (furth ps m)) (endsN ps ls (furth ps m)))] = (mvdM ps ls (ms.take (i + 1))).map vT by rw [ea, List.map_append]; rfl]
          exact hK _ ⟨_, _, _, _, rfl⟩
    · rintro ρ ⟨x6, x7, x8, x9, rfl⟩
      simp only [wSs, wS, w, mk, bOf, wEs, wXs, wP, wI, wIfs, wAnd, wOr, rd, L3.startT, frz, frz1, List.foldl, List.map, List.length, endsOf, List.cons_append, List.nil_append, List.replicate, List.set, Co.w, Bo.w, Bf.w, wCmp, wGcd, wFdv, wNeg, wMul, wAdd, wSub, wMod, wPar, Ms.fl, wMs, setM, Tg.w, wTup_cons, wTup_nil, wLcE, wF, List.getElem?_cons_zero, List.getElem?_cons_succ, List.set_cons_zero, List.set_cons_succ, Nat.reduceSub, Nat.reduceAdd, List.length_cons, List.length_nil, List.map_cons, List.map_nil, List.foldl_nil, List.replicate_succ, List.replicate_zero, Nat.reduceEqDiff, if_false, if_true, T.bl.injEq, T.int.injEq, T.str.injEq, T.tup.injEq, T.lst.injEq, exists_eq_left', true_or, and_true, true_and, reduceCtorEq, reduceIte, decide_eq_true_eq, seqT, Option.some.injEq, wipeT, wRev, wSl, false_or, or_true, bneF, bneT, Int.toNat_natCast, okB_int, okB_non, okB_rT, okB_rTs, okB_rTt, ownL, wLt, wIn, inT_rTs, okE_int, okE_str, okE_rT, okE_rTs, okE_rTt, okE_nil, tyIs, wListF, wCatF, timesT, wZip]
      rw [List.length_map, List.take_length]
      refine ⟨_, keyV, rfl, fun x hx Q' q' => ?_, by decide, ?_⟩
      · obtain ⟨u, hu, rfl⟩ := List.mem_map.mp hx
        rw [keyV_at] at q'
        rw [mvdM_map] at hu
        obtain ⟨m, hmm, rfl⟩ := List.mem_map.mp hu
        have h1 := dep_mem hmm
        have h2 := vsz_mem hmm
        have eN := endsN_bits (olds := ps) (news := ls) (fur := furth ps m) hk1 led hll (by have := furth_len (ps := ps) (v := m); omega)
        simp only [wCall_of ht, wSs, wS, w, mk, bOf, wEs, wXs, wP, wI, wIfs, wAnd, wOr, rd, L3.startT, frz, frz1, List.foldl, List.map, List.length, endsOf, List.cons_append, List.nil_append, List.replicate, List.set, Co.w, Bo.w, Bf.w, wCmp, wGcd, wFdv, wNeg, wMul, wAdd, wSub, wMod, wPar, Ms.fl, wMs, setM, Tg.w, wTup_cons, wTup_nil, wLcE, wF, List.getElem?_cons_zero, List.getElem?_cons_succ, List.set_cons_zero, List.set_cons_succ, Nat.reduceSub, Nat.reduceAdd, List.length_cons, List.length_nil, List.map_cons, List.map_nil, List.foldl_nil, List.replicate_succ, List.replicate_zero, Nat.reduceEqDiff, if_false, if_true, T.bl.injEq, T.int.injEq, T.str.injEq, T.tup.injEq, T.lst.injEq, exists_eq_left', true_or, and_true, true_and, reduceCtorEq, reduceIte, decide_eq_true_eq, seqT, Option.some.injEq, wipeT, wRev, wSl, false_or, or_true, bneF, bneT, Int.toNat_natCast, okB_int, okB_non, okB_rT, okB_rTs, okB_rTt, ownL, wLt, wIn, inT_rTs, okE_int, okE_str, okE_rT, okE_rTs, okE_rTt, okE_nil, tyIs, wListF, wCatF, timesT, wZip]
        refine ⟨_, 2 * k + 12, rfl, WV_mvd (hok m hmm), BV_mvd (hok m hmm) (by omega) (by omega) eN, by rw [dep_mvd]; exact Nat.le_trans (fit_in8 hk h1) (by decide), by rw [vsz_mvd]; omega, by rw [dep_mvd]; omega, q'⟩
      · rw [sortT_map fun v _ => keyV_at v]
        exact q
end LawP

set_option exponentiation.threshold 4000
/-! LW5: words of the laws' own helpers: placed, bundles. -/
namespace LawP
open PySem PySem.Spec PyProof.Rows L2 L3

/-- a value that may be placed over points of k bits -/
structure PlOk (D k : Nat) (v : Val) : Prop where
  wv : WV v
  bv : BV (2 * k + 12) v
  fit : (2 * k + 12 + 12) * 2 ^ dep v ≤ 800
  sz : vsz v ≤ 1000
  dp : dep v < D
theorem PlOk.k {D k : Nat} {v : Val} (h : PlOk D k v) : k ≤ 388 := by
  have := fit_k h.fit
  omega
theorem PlOk.plc {D k : Nat} {v : Val} {ps : List Rat} (h : PlOk D k v) (hp : Asc ps) (hk : 1 ≤ k) (hb : ∀ r ∈ ps, bd k r) : PlOk D k (plc v ps) :=
  ⟨WV_plc h.wv hp, BV_plc h.wv hp hk h.sz hb, by rw [dep_plc]; exact h.fit, by rw [vsz_plc]; exact h.sz, by rw [dep_plc]; exact h.dp⟩
def sp_lplaced (D : Nat) : VSp := fun ds Q _ => ∃ (v : Val) (ps : List Rat) (k : Nat), ds = [vT v, .lst (ps.map rT)] ∧ PlOk D k v ∧ Asc ps ∧ 1 ≤ k ∧ (∀ r ∈ ps, bd k r) ∧ ps.length ≤ 1000 ∧ Q (vT (plc v ps))
theorem ws_l_placed {G : Gt} {D : Nat} (hm : G "_law_moved" = some ⟨3, 0, sp_lmoved D⟩) (hs : G "_law_support" = some ⟨1, 0, sp_lsupp D⟩) (he : G "_law_ends" = some ⟨3, 0, sp_lends⟩)
    (ds : List T) (Q : T → Prop) (E : Ex → Prop) (h : sp_lplaced D ds Q E) :
    wSs G b_l_placed (L3.startT ["_law_value", "_law_points", "_law_further", "_law_one", "_law_olds", "_law_news"] ds) (endsOf 0 Q E) := by
  obtain ⟨v, ps, k, rfl, ok, hp, hk1, hb, hl, q⟩ := h
  have hk := ok.k
  have bsup : ∀ r ∈ supp v, bd 1000 r := fun r hr => (ok.bv.supp r hr).mono (by omega)
  have hfl := furth_len (ps := ps) (v := v)
  have hsl := supp_len v
  have hz := ok.sz
  simp only [b_l_placed, wCall_of hs, wSs, wS, w, mk, bOf, wEs, wXs, wP, wI, wIfs, wAnd, wOr, rd, L3.startT, frz, frz1, List.foldl, List.map, List.length, endsOf, List.cons_append, List.nil_append, List.replicate, List.set, Co.w, Bo.w, Bf.w, wCmp, wGcd, wFdv, wNeg, wMul, wAdd, wSub, wMod, wPar, Ms.fl, wMs, setM, Tg.w, wTup_cons, wTup_nil, wLcE, wF, List.getElem?_cons_zero, List.getElem?_cons_succ, List.set_cons_zero, List.set_cons_succ, Nat.reduceSub, Nat.reduceAdd, List.length_cons, List.length_nil, List.map_cons, List.map_nil, List.foldl_nil, List.replicate_succ, List.replicate_zero, Nat.reduceEqDiff, if_false, if_true, T.bl.injEq, T.int.injEq, T.str.injEq, T.tup.injEq, T.lst.injEq, exists_eq_left', true_or, and_true, true_and, reduceCtorEq, reduceIte, decide_eq_true_eq, seqT, Option.some.injEq, wipeT, wRev, wSl, false_or, or_true, bneF, bneT, Int.toNat_natCast, okB_int, okB_non, okB_rT, okB_rTs, okB_rTt, ownL, wLt, wIn, inT_rTs, okE_int, okE_str, okE_rT, okE_rTs, okE_rTt, okE_nil, tyIs, wListF, wCatF, timesT, wZip]
  refine ⟨v, rfl, ok.bv.mono (by omega), hz, ok.dp, _, rfl, ?_⟩
  refine wLc_over (f0 := rT) (p := fun r => !decide (r ∈ ps)) (F := rT) (supp v) [] (by rw [List.length_nil, Nat.zero_add]; exact small5000 (by omega)) (fun z hz' KK K' N k1 k2 => ?_) ?_
  · simp only [e_l_placed_1, es_l_placed_2, wSs, wS, w, mk, bOf, wEs, wXs, wP, wI, wIfs, wAnd, wOr, rd, L3.startT, frz, frz1, List.foldl, List.map, List.length, endsOf, List.cons_append, List.nil_append, List.replicate, List.set, Co.w, Bo.w, Bf.w, wCmp, wGcd, wFdv, wNeg, wMul, wAdd, wSub, wMod, wPar, Ms.fl, wMs, setM, Tg.w, wTup_cons, wTup_nil, wLcE, wF, List.getElem?_cons_zero, List.getElem?_cons_succ, List.set_cons_zero, List.set_cons_succ, Nat.reduceSub, Nat.reduceAdd, List.length_cons, List.length_nil, List.map_cons, List.map_nil, List.foldl_nil, List.replicate_succ, List.replicate_zero, Nat.reduceEqDiff, if_false, if_true, T.bl.injEq, T.int.injEq, T.str.injEq, T.tup.injEq, T.lst.injEq, exists_eq_left', true_or, and_true, true_and, reduceCtorEq, reduceIte, decide_eq_true_eq, seqT, Option.some.injEq, wipeT, wRev, wSl, false_or, or_true, bneF, bneT, Int.toNat_natCast, okB_int, okB_non, okB_rT, okB_rTs, okB_rTt, ownL, wLt, wIn, inT_rTs, okE_int, okE_str, okE_rT, okE_rTs, okE_rTt, okE_nil, tyIs, wListF, wCatF, timesT, wZip]
    by_cases hg : z ∈ ps
    · simp only [hg, decide_true, Bool.not_true, Bool.false_eq_true, if_false]; exact k2 (by simpa using hg)
    · simp only [hg, decide_false, Bool.not_false, if_true]; exact k1 (by simpa using hg)
  · simp only [furth_filt, wCall_of he, wSs, wS, w, mk, bOf, wEs, wXs, wP, wI, wIfs, wAnd, wOr, rd, L3.startT, frz, frz1, List.foldl, List.map, List.length, endsOf, List.cons_append, List.nil_append, List.replicate, List.set, Co.w, Bo.w, Bf.w, wCmp, wGcd, wFdv, wNeg, wMul, wAdd, wSub, wMod, wPar, Ms.fl, wMs, setM, Tg.w, wTup_cons, wTup_nil, wLcE, wF, List.getElem?_cons_zero, List.getElem?_cons_succ, List.set_cons_zero, List.set_cons_succ, Nat.reduceSub, Nat.reduceAdd, List.length_cons, List.length_nil, List.map_cons, List.map_nil, List.foldl_nil, List.replicate_succ, List.replicate_zero, Nat.reduceEqDiff, if_false, if_true, T.bl.injEq, T.int.injEq, T.str.injEq, T.tup.injEq, T.lst.injEq, exists_eq_left', true_or, and_true, true_and, reduceCtorEq, reduceIte, decide_eq_true_eq, seqT, Option.some.injEq, wipeT, wRev, wSl, false_or, or_true, bneF, bneT, Int.toNat_natCast, okB_int, okB_non, okB_rT, okB_rTs, okB_rTt, ownL, wLt, wIn, inT_rTs, okE_int, okE_str, okE_rT, okE_rTs, okE_rTt, okE_nil, tyIs, wListF, wCatF, timesT, wZip]
    refine ⟨ps, ps, furth ps v, rfl, fun r hr => (hb r hr).mono (by omega), fun r hr => (hb r hr).mono (by omega), fun r hr => bsup r (furth_in r hr), rfl, by omega, by omega, ?_⟩
    have eL : (endsO ps (furth ps v)).length ≤ 3000 := by
      have := asc_len_le (l := ps ++ furth ps v)
      rw [List.length_append] at this
      unfold endsO
      omega
    simp only [wCall_of hm, wSs, wS, w, mk, bOf, wEs, wXs, wP, wI, wIfs, wAnd, wOr, rd, L3.startT, frz, frz1, List.foldl, List.map, List.length, endsOf, List.cons_append, List.nil_append, List.replicate, List.set, Co.w, Bo.w, Bf.w, wCmp, wGcd, wFdv, wNeg, wMul, wAdd, wSub, wMod, wPar, Ms.fl, wMs, setM, Tg.w, wTup_cons, wTup_nil, wLcE, wF, List.getElem?_cons_zero, List.getElem?_cons_succ, List.set_cons_zero, List.set_cons_succ, Nat.reduceSub, Nat.reduceAdd, List.length_cons, List.length_nil, List.map_cons, List.map_nil, List.foldl_nil, List.replicate_succ, List.replicate_zero, Nat.reduceEqDiff, if_false, if_true, T.bl.injEq, T.int.injEq, T.str.injEq, T.tup.injEq, T.lst.injEq, exists_eq_left', true_or, and_true, true_and, reduceCtorEq, reduceIte, decide_eq_true_eq, seqT, Option.some.injEq, wipeT, wRev, wSl, false_or, or_true, bneF, bneT, Int.toNat_natCast, okB_int, okB_non, okB_rT, okB_rTs, okB_rTt, ownL, wLt, wIn, inT_rTs, okE_int, okE_str, okE_rT, okE_rTs, okE_rTt, okE_nil, tyIs, wListF, wCatF, timesT, wZip]
    exact ⟨v, _, _, 2 * k + 12, rfl, .plc ok.wv hp, ok.bv, by omega, ok.fit, hz, endsN_bits hk1 hb rfl (by omega), eL, ok.dp, q⟩
/-! ### where a point lies among the other ones -/
theorem asc_perm {l : List Rat} (h : l.Nodup) : (asc l).Perm l := (List.perm_ext_iff_of_nodup asc_asc.nodup h).mpr fun _ => asc_mem
theorem gapn_perm {a b : List Rat} (h : a.Perm b) (x : Rat) : gapn a x = gapn b x := (h.filter _).length_eq
theorem gapn_mono {ps : List Rat} {x y : Rat} (h : x ≤ y) : gapn ps x ≤ gapn ps y := by
  unfold gapn
  induction ps with
  | nil => exact Nat.le_refl _
  | cons p ps ih =>
    by_cases h1 : p < x
    · have h2 : p < y := Std.lt_of_lt_of_le h1 h
      rw [List.filter_cons_of_pos (by simpa using h1), List.filter_cons_of_pos (by simpa using h2), List.length_cons, List.length_cons]
      omega
    · rw [List.filter_cons_of_neg (by simpa using h1)]
      by_cases h2 : p < y
      · rw [List.filter_cons_of_pos (by simpa using h2), List.length_cons]; omega
      · rw [List.filter_cons_of_neg (by simpa using h2)]; exact ih
section
variable {os : List Rat} {p : Rat}
theorem gapn_with (h : p ∉ os) (nd : os.Nodup) (x : Rat) : gapn (asc (os ++ [p])) x = gapn os x + if p < x then 1 else 0 := by
  have hn : (os ++ [p]).Nodup := List.nodup_append.mpr ⟨nd, by simp, fun a ha b hb e => by (have : b = p := by simpa using hb); rw [this] at e; exact h (e ▸ ha)⟩
  rw [gapn_perm (asc_perm hn)]
  unfold gapn
  rw [List.filter_append, List.length_append]
  by_cases hx : p < x
  · rw [List.filter_cons_of_pos (by simpa using hx), if_pos hx]; rfl
  · rw [List.filter_cons_of_neg (by simpa using hx), if_neg hx]; rfl
theorem low_at (h : p ∉ os) (ho : Asc os) {n : Nat} : ∀ f ∈ spr (asc (os ++ [p])) (gapn os p) n, f ∉ os ∧ f < p ∧ gapn os f = gapn os p := fun f hf => by
  have hl : (asc (os ++ [p])).length = os.length + 1 := by rw [asc_len (List.nodup_append.mpr ⟨ho.nodup, by simp, fun a ha b hb e => by (have : b = p := by simpa using hb); rw [this] at e; exact h (e ▸ ha)⟩)]; simp
  obtain ⟨h1, h2⟩ := gap_spr asc_asc (by rw [hl]; have := gapn_le (ps := os) (x := p); omega) f hf
  rw [asc_mem, List.mem_append] at h1
  rw [gapn_with h ho.nodup] at h2
  have h3 : f ≠ p := fun z => h1 (.inr (by simp [z]))
  have h4 : ¬ p < f := fun z => by
    rw [if_pos z] at h2
    have := gapn_mono (ps := os) (Rat.le_of_lt z)
    omega
  rw [if_neg h4] at h2
  exact ⟨fun z => h1 (.inl z), by grind, by omega⟩
theorem high_at (h : p ∉ os) (ho : Asc os) {n : Nat} : ∀ f ∈ spr (asc (os ++ [p])) (gapn os p + 1) n, f ∉ os ∧ p < f ∧ gapn os f = gapn os p := fun f hf => by
  have hl : (asc (os ++ [p])).length = os.length + 1 := by rw [asc_len (List.nodup_append.mpr ⟨ho.nodup, by simp, fun a ha b hb e => by (have : b = p := by simpa using hb); rw [this] at e; exact h (e ▸ ha)⟩)]; simp
  obtain ⟨h1, h2⟩ := gap_spr asc_asc (by rw [hl]; have := gapn_le (ps := os) (x := p); omega) f hf
  rw [asc_mem, List.mem_append] at h1
  rw [gapn_with h ho.nodup] at h2
  have h4 : p < f := by
    refine Classical.byContradiction fun z => ?_
    rw [if_neg z] at h2
    have := gapn_mono (ps := os) (Rat.not_lt.mp z)
    omega
  rw [if_pos h4] at h2
  exact ⟨fun z => h1 (.inl z), h4, by omega⟩
/-- the points of m in p's gap, and the others -/
def hereB (os : List Rat) (p : Rat) (rest : List Rat) : List Rat := rest.filter fun x => decide (gapn os x = gapn os p)
def awayB (os : List Rat) (p : Rat) (rest : List Rat) : List Rat := rest.filter fun x => !decide (x ∈ hereB os p rest)
def newsB (os : List Rat) (p : Rat) (rest : List Rat) (low on : Nat) : List Rat := spr (asc (os ++ [p])) (gapn os p) low ++ [p].take on ++ spr (asc (os ++ [p])) (gapn os p + 1) ((hereB os p rest).length - low - on)
def endsB (os : List Rat) (p : Rat) (rest : List Rat) (low on : Nat) : List Rat := asc (os ++ awayB os p rest ++ newsB os p rest low on)
theorem news_at {rest : List Rat} {low on : Nat} (h : p ∉ os) (ho : Asc os) : ∀ f ∈ newsB os p rest low on, f ∉ os ∧ gapn os f = gapn os p := fun f hf => by
  unfold newsB at hf
  rcases List.mem_append.mp hf with hf | hf
  · rcases List.mem_append.mp hf with hf | hf
    · have := low_at h ho f hf; exact ⟨this.1, this.2.2⟩
    · have e : f = p := by simpa using List.mem_of_mem_take hf
      rw [e]; exact ⟨h, rfl⟩
  · have := high_at h ho f hf; exact ⟨this.1, this.2.2⟩
theorem news_nodup {rest : List Rat} {low on : Nat} (h : p ∉ os) (ho : Asc os) : (newsB os p rest low on).Nodup := by
  have hl : (asc (os ++ [p])).length = os.length + 1 := by rw [asc_len (List.nodup_append.mpr ⟨ho.nodup, by simp, fun a ha b hb e => by (have : b = p := by simpa using hb); rw [this] at e; exact h (e ▸ ha)⟩)]; simp
  have hg := gapn_le (ps := os) (x := p)
  unfold newsB
  refine List.nodup_append.mpr ⟨List.nodup_append.mpr ⟨(spr_asc asc_asc (by omega)).nodup, (List.take_sublist _ _).nodup (by simp), fun a ha b hb e => ?_⟩, (spr_asc asc_asc (by omega)).nodup, fun a ha b hb e => ?_⟩
  · have e2 : b = p := by simpa using List.mem_of_mem_take hb
    have := (low_at h ho a ha).2.1
    rw [e, e2] at this
    exact Rat.lt_irrefl this
  · have h2 := (high_at h ho b hb).2.1
    rcases List.mem_append.mp ha with ha | ha
    · have := (low_at h ho a ha).2.1
      rw [e] at this
      exact Rat.lt_irrefl (Std.lt_trans this h2)
    · have e2 : a = p := by simpa using List.mem_of_mem_take ha
      rw [← e, e2] at h2
      exact Rat.lt_irrefl h2
theorem here_away {rest : List Rat} : (hereB os p rest).length + (awayB os p rest).length = rest.length := by
  have e : awayB os p rest = rest.filter fun x => !decide (gapn os x = gapn os p) := by
    unfold awayB
    refine List.filter_congr fun x hx => ?_
    congr 1
    rw [decide_eq_decide]
    unfold hereB
    rw [List.mem_filter]
    simp [hx]
  rw [e]
  clear e
  unfold hereB
  induction rest with
  | nil => rfl
  | cons x xs ih =>
    by_cases h : gapn os x = gapn os p
    · rw [List.filter_cons_of_pos (by simpa using h), List.filter_cons_of_neg (by simpa using h), List.length_cons, List.length_cons]; omega
    · rw [List.filter_cons_of_neg (by simpa using h), List.filter_cons_of_pos (by simpa using h), List.length_cons, List.length_cons]; omega
theorem endsB_len {rest : List Rat} {low on : Nat} (h : p ∉ os) (ho : Asc os) (nd : rest.Nodup) (hout : ∀ x ∈ rest, x ∉ os) (hlow : low + on ≤ (hereB os p rest).length) (hon : on ≤ 1) : (endsB os p rest low on).length = os.length + rest.length := by
  unfold endsB
  rw [asc_len]
  · have := here_away (os := os) (p := p) (rest := rest)
    unfold newsB
    simp only [List.length_append, spr_len, List.length_take, List.length_cons, List.length_nil]
    omega
  · refine List.nodup_append.mpr ⟨List.nodup_append.mpr ⟨ho.nodup, nd.filter _, fun a ha b hb e => hout b (List.mem_filter.mp hb).1 (e ▸ ha)⟩, news_nodup h ho, fun a ha b hb e => ?_⟩
    have hn := news_at h ho b hb
    rcases List.mem_append.mp ha with ha | ha
    · exact hn.1 (e ▸ ha)
    · unfold awayB at ha
      rw [List.mem_filter] at ha
      have h2 : a ∉ hereB os p rest := by simpa using ha.2
      refine h2 ?_
      unfold hereB
      rw [List.mem_filter]
      exact ⟨ha.1, by simpa using e ▸ hn.2⟩
end
/-! ### bundles -/
def sp_lbundle (D : Nat) : VSp := fun ds Q _ => ∃ (m : Val) (os : List Rat) (p : Rat) (k : Nat), ds = [vT m, .lst (os.map rT), rT p] ∧ PlOk D k m ∧ Asc os ∧ p ∉ os ∧ 1 ≤ k ∧ (∀ r ∈ os, bd k r) ∧ bd k p ∧ os.length ≤ 900 ∧
  ∀ us : List Val, us.length ≤ 2 * (vsz m + 1) → (∀ u ∈ us, WV u ∧ dep u = dep m) → Q (.lst (us.map vT))
theorem rng_at {n i : Nat} {d : T} (h : (L3.rangeT 0 n)[i]? = some d) : i < n ∧ d = .int (i : Int) := by
  obtain ⟨h1, h2⟩ := rangeT_at h
  exact ⟨h1, by rw [h2, Int.zero_add]⟩
theorem cut_to {α : Type} {x : α} {f : α → T} {n : Nat} : cutT [f x] none (some (n : Int)) = ([x].take n).map f := by
  have e1 : HT.sIx [f x].length 0 none = 0 := rfl
  have e2 : HT.sIx [f x].length [f x].length (some (n : Int)) = min n 1 := HT.sIx_nat _ _ _
  unfold cutT
  rw [e1, e2, List.drop_zero, Nat.sub_zero]
  cases n with
  | zero => rfl
  | succ n => simp
theorem ws_l_bundle {G : Gt} {D : Nat} (hm : G "_law_moved" = some ⟨3, 0, sp_lmoved D⟩) (hs : G "_law_support" = some ⟨1, 0, sp_lsupp D⟩) (hg : G "_law_gap" = some ⟨2, 0, sp_lgap⟩) (ha : G "_law_ascending" = some ⟨1, 0, sp_asc⟩) (hsp : G "_law_spread" = some ⟨3, 0, sp_lspread⟩) (hp : G "_law_placed" = some ⟨2, 0, sp_lplaced D⟩)
    (ds : List T) (Q : T → Prop) (E : Ex → Prop) (h : sp_lbundle D ds Q E) :
    wSs G b_l_bundle (L3.startT ["_law_member", "_law_others", "_law_point_here", "_law_rest", "_law_gap_here", "_law_one", "_law_here", "_law_away", "_law_known", "_law_found", "_law_olds", "_law_low", "_law_is_on", "_law_news", "_law_ends_here"] ds) (endsOf 0 Q E) := by
  obtain ⟨m, os, p, k, rfl, ok, ho, hpo, hk1, hb, hbp, hl, q⟩ := h
  have hk := ok.k
  have hz := ok.sz
  have bsup : ∀ r ∈ supp m, bd 1000 r := fun r hr => (ok.bv.supp r hr).mono (by omega)
  have hfl := furth_len (ps := os) (v := m)
  have hsl := supp_len m
  simp only [b_l_bundle, wCall_of hs, wSs, wS, w, mk, bOf, wEs, wXs, wP, wI, wIfs, wAnd, wOr, rd, L3.startT, frz, frz1, List.foldl, List.map, List.length, endsOf, List.cons_append, List.nil_append, List.replicate, List.set, Co.w, Bo.w, Bf.w, wCmp, wGcd, wFdv, wNeg, wMul, wAdd, wSub, wMod, wPar, Ms.fl, wMs, setM, Tg.w, wTup_cons, wTup_nil, wLcE, wF, List.getElem?_cons_zero, List.getElem?_cons_succ, List.set_cons_zero, List.set_cons_succ, Nat.reduceSub, Nat.reduceAdd, List.length_cons, List.length_nil, List.map_cons, List.map_nil, List.foldl_nil, List.replicate_succ, List.replicate_zero, Nat.reduceEqDiff, if_false, if_true, T.bl.injEq, T.int.injEq, T.str.injEq, T.tup.injEq, T.lst.injEq, exists_eq_left', true_or, and_true, true_and, reduceCtorEq, reduceIte, decide_eq_true_eq, seqT, Option.some.injEq, wipeT, wRev, wSl, false_or, or_true, bneF, bneT, Int.toNat_natCast, okB_int, okB_non, okB_rT, okB_rTs, okB_rTt, ownL, wLt, wIn, inT_rTs, okE_int, okE_str, okE_rT, okE_rTs, okE_rTt, okE_nil, tyIs, wListF, wCatF, timesT, wZip]
  refine ⟨m, rfl, ok.bv.mono (by omega), hz, ok.dp, _, rfl, ?_⟩
  refine wLc_over (f0 := rT) (p := fun r => !decide (r ∈ os)) (F := rT) (supp m) [] (by rw [List.length_nil, Nat.zero_add]; exact small5000 (by omega)) (fun z hz' KK K' N k1 k2 => ?_) ?_
  · simp only [e_l_bundle_7, es_l_bundle_8, wSs, wS, w, mk, bOf, wEs, wXs, wP, wI, wIfs, wAnd, wOr, rd, L3.startT, frz, frz1, List.foldl, List.map, List.length, endsOf, List.cons_append, List.nil_append, List.replicate, List.set, Co.w, Bo.w, Bf.w, wCmp, wGcd, wFdv, wNeg, wMul, wAdd, wSub, wMod, wPar, Ms.fl, wMs, setM, Tg.w, wTup_cons, wTup_nil, wLcE, wF, List.getElem?_cons_zero, List.getElem?_cons_succ, List.set_cons_zero, List.set_cons_succ, Nat.reduceSub, Nat.reduceAdd, List.length_cons, List.length_nil, List.map_cons, List.map_nil, List.foldl_nil, List.replicate_succ, List.replicate_zero, Nat.reduceEqDiff, if_false, if_true, T.bl.injEq, T.int.injEq, T.str.injEq, T.tup.injEq, T.lst.injEq, exists_eq_left', true_or, and_true, true_and, reduceCtorEq, reduceIte, decide_eq_true_eq, seqT, Option.some.injEq, wipeT, wRev, wSl, false_or, or_true, bneF, bneT, Int.toNat_natCast, okB_int, okB_non, okB_rT, okB_rTs, okB_rTt, ownL, wLt, wIn, inT_rTs, okE_int, okE_str, okE_rT, okE_rTs, okE_rTt, okE_nil, tyIs, wListF, wCatF, timesT, wZip]
    by_cases hg : z ∈ os
    · simp only [hg, decide_true, Bool.not_true, Bool.false_eq_true, if_false]; exact k2 (by simpa using hg)
    · simp only [hg, decide_false, Bool.not_false, if_true]; exact k1 (by simpa using hg)
  simp only [furth_filt, wCall_of hg, wSs, wS, w, mk, bOf, wEs, wXs, wP, wI, wIfs, wAnd, wOr, rd, L3.startT, frz, frz1, List.foldl, List.map, List.length, endsOf, List.cons_append, List.nil_append, List.replicate, List.set, Co.w, Bo.w, Bf.w, wCmp, wGcd, wFdv, wNeg, wMul, wAdd, wSub, wMod, wPar, Ms.fl, wMs, setM, Tg.w, wTup_cons, wTup_nil, wLcE, wF, List.getElem?_cons_zero, List.getElem?_cons_succ, List.set_cons_zero, List.set_cons_succ, Nat.reduceSub, Nat.reduceAdd, List.length_cons, List.length_nil, List.map_cons, List.map_nil, List.foldl_nil, List.replicate_succ, List.replicate_zero, Nat.reduceEqDiff, if_false, if_true, T.bl.injEq, T.int.injEq, T.str.injEq, T.tup.injEq, T.lst.injEq, exists_eq_left', true_or, and_true, true_and, reduceCtorEq, reduceIte, decide_eq_true_eq, seqT, Option.some.injEq, wipeT, wRev, wSl, false_or, or_true, bneF, bneT, Int.toNat_natCast, okB_int, okB_non, okB_rT, okB_rTs, okB_rTt, ownL, wLt, wIn, inT_rTs, okE_int, okE_str, okE_rT, okE_rTs, okE_rTt, okE_nil, tyIs, wListF, wCatF, timesT, wZip]
  refine ⟨os, p, rfl, fun r hr => (hb r hr).mono (by omega), hbp.mono (by omega), by omega, ?_⟩
  have bR : ∀ r ∈ furth os m, bd 1000 r := fun r hr => bsup r (furth_in r hr)
  refine wLc_over (f0 := rT) (p := fun x => decide (gapn os x = gapn os p)) (F := rT) (furth os m) [] (by rw [List.length_nil, Nat.zero_add]; exact small5000 (by omega)) (fun z hz KK K' N k1 k2 => ?_) ?_
  · simp only [e_l_bundle_5, es_l_bundle_6, wCall_of hg, wEq, wSs, wS, w, mk, bOf, wEs, wXs, wP, wI, wIfs, wAnd, wOr, rd, L3.startT, frz, frz1, List.foldl, List.map, List.length, endsOf, List.cons_append, List.nil_append, List.replicate, List.set, Co.w, Bo.w, Bf.w, wCmp, wGcd, wFdv, wNeg, wMul, wAdd, wSub, wMod, wPar, Ms.fl, wMs, setM, Tg.w, wTup_cons, wTup_nil, wLcE, wF, List.getElem?_cons_zero, List.getElem?_cons_succ, List.set_cons_zero, List.set_cons_succ, Nat.reduceSub, Nat.reduceAdd, List.length_cons, List.length_nil, List.map_cons, List.map_nil, List.foldl_nil, List.replicate_succ, List.replicate_zero, Nat.reduceEqDiff, if_false, if_true, T.bl.injEq, T.int.injEq, T.str.injEq, T.tup.injEq, T.lst.injEq, exists_eq_left', true_or, and_true, true_and, reduceCtorEq, reduceIte, decide_eq_true_eq, seqT, Option.some.injEq, wipeT, wRev, wSl, false_or, or_true, bneF, bneT, Int.toNat_natCast, okB_int, okB_non, okB_rT, okB_rTs, okB_rTt, ownL, wLt, wIn, inT_rTs, okE_int, okE_str, okE_rT, okE_rTs, okE_rTt, okE_nil, tyIs, wListF, wCatF, timesT, wZip]
    refine ⟨os, z, rfl, fun r hr => (hb r hr).mono (by omega), bR z hz, by omega, ?_⟩
    refine ⟨rfl, ?_⟩
    rw [L3.eqT_int]
    by_cases hgg : gapn os z = gapn os p
    · rw [if_pos (decide_eq_true (by omega))]; exact k1 (by simpa using hgg)
    · rw [if_neg (by simpa using fun (q : (gapn os z : Int) = (gapn os p : Int)) => hgg (by omega))]; exact k2 (by simpa using hgg)
  rw [show ([] : List T) ++ ((furth os m).filter fun x => decide (gapn os x = gapn os p)).map rT = (hereB os p (furth os m)).map rT from rfl]
  have hH : (hereB os p (furth os m)).length ≤ (furth os m).length := List.length_filter_le _ _
  refine wLc_over (f0 := rT) (p := fun x => !decide (x ∈ hereB os p (furth os m))) (F := rT) (furth os m) [] (by rw [List.length_nil, Nat.zero_add]; exact small5000 (by omega)) (fun z hz KK K' N k1 k2 => ?_) ?_
  · simp only [e_l_bundle_3, es_l_bundle_4, wSs, wS, w, mk, bOf, wEs, wXs, wP, wI, wIfs, wAnd, wOr, rd, L3.startT, frz, frz1, List.foldl, List.map, List.length, endsOf, List.cons_append, List.nil_append, List.replicate, List.set, Co.w, Bo.w, Bf.w, wCmp, wGcd, wFdv, wNeg, wMul, wAdd, wSub, wMod, wPar, Ms.fl, wMs, setM, Tg.w, wTup_cons, wTup_nil, wLcE, wF, List.getElem?_cons_zero, List.getElem?_cons_succ, List.set_cons_zero, List.set_cons_succ, Nat.reduceSub, Nat.reduceAdd, List.length_cons, List.length_nil, List.map_cons, List.map_nil, List.foldl_nil, List.replicate_succ, List.replicate_zero, Nat.reduceEqDiff, if_false, if_true, T.bl.injEq, T.int.injEq, T.str.injEq, T.tup.injEq, T.lst.injEq, exists_eq_left', true_or, and_true, true_and, reduceCtorEq, reduceIte, decide_eq_true_eq, seqT, Option.some.injEq, wipeT, wRev, wSl, false_or, or_true, bneF, bneT, Int.toNat_natCast, okB_int, okB_non, okB_rT, okB_rTs, okB_rTt, ownL, wLt, wIn, inT_rTs, okE_int, okE_str, okE_rT, okE_rTs, okE_rTt, okE_nil, tyIs, wListF, wCatF, timesT, wZip]
    by_cases hg : z ∈ hereB os p (furth os m)
    · simp only [hg, decide_true, Bool.not_true, Bool.false_eq_true, if_false]; exact k2 (by simpa using hg)
    · simp only [hg, decide_false, Bool.not_false, if_true]; exact k1 (by simpa using hg)
  rw [show ([] : List T) ++ ((furth os m).filter fun x => !decide (x ∈ hereB os p (furth os m))).map rT = (awayB os p (furth os m)).map rT from rfl]
  simp only [wCall_of ha, wSs, wS, w, mk, bOf, wEs, wXs, wP, wI, wIfs, wAnd, wOr, rd, L3.startT, frz, frz1, List.foldl, List.map, List.length, endsOf, List.cons_append, List.nil_append, List.replicate, List.set, Co.w, Bo.w, Bf.w, wCmp, wGcd, wFdv, wNeg, wMul, wAdd, wSub, wMod, wPar, Ms.fl, wMs, setM, Tg.w, wTup_cons, wTup_nil, wLcE, wF, List.getElem?_cons_zero, List.getElem?_cons_succ, List.set_cons_zero, List.set_cons_succ, Nat.reduceSub, Nat.reduceAdd, List.length_cons, List.length_nil, List.map_cons, List.map_nil, List.foldl_nil, List.replicate_succ, List.replicate_zero, Nat.reduceEqDiff, if_false, if_true, T.bl.injEq, T.int.injEq, T.str.injEq, T.tup.injEq, T.lst.injEq, exists_eq_left', true_or, and_true, true_and, reduceCtorEq, reduceIte, decide_eq_true_eq, seqT, Option.some.injEq, wipeT, wRev, wSl, false_or, or_true, bneF, bneT, Int.toNat_natCast, okB_int, okB_non, okB_rT, okB_rTs, okB_rTt, ownL, wLt, wIn, inT_rTs, okE_int, okE_str, okE_rT, okE_rTs, okE_rTt, okE_nil, tyIs, wListF, wCatF, timesT, wZip]
  have hA : (awayB os p (furth os m)).length ≤ (furth os m).length := List.length_filter_le _ _
  have bOR : ∀ r ∈ os ++ furth os m, bd 1000 r := fun r hr => (List.mem_append.mp hr).elim (fun z => (hb r z).mono (by omega)) (bR r)
  have bOP : ∀ r ∈ os ++ [p], bd k r := fun r hr => (List.mem_append.mp hr).elim (hb r) fun z => by (have e : r = p := by simpa using z); rw [e]; exact hbp
  have bK : ∀ r ∈ asc (os ++ [p]), bd k r := fun r hr => bOP r (asc_mem.mp hr)
  have ndP : (os ++ [p]).Nodup := List.nodup_append.mpr ⟨ho.nodup, by simp, fun a ha b hb e => by (have : b = p := by simpa using hb); rw [this] at e; exact hpo (e ▸ ha)⟩
  have hKl : (asc (os ++ [p])).length = os.length + 1 := by rw [asc_len ndP]; simp
  have hgl := gapn_le (ps := os) (x := p)
  have ndR : (furth os m).Nodup := furth_nodup ok.wv
  have hOl : (asc (os ++ furth os m)).length = os.length + (furth os m).length := by
    rw [asc_len (List.nodup_append.mpr ⟨ho.nodup, ndR, fun a ha b hb e => furth_out b hb (e ▸ ha)⟩), List.length_append]
  refine ⟨by decide, by rw [List.length_map]; exact Nat.le_of_lt (small5000 (by omega)), os ++ [p], by rw [List.map_append]; rfl, fun r hr => (bOP r hr).mono (by omega), by rw [List.length_append, List.length_singleton]; omega, Nat.zero_le _, by rw [List.length_map, List.length_map]; exact Nat.le_of_lt (small5000 (by omega)),
    os ++ furth os m, by rw [List.map_append], bOR, by rw [List.length_append]; omega, by rw [List.length_map]; omega, by rw [List.length_map]; omega, ?_⟩
  rw [List.length_map]
  have eN : (((hereB os p (furth os m)).length : Int) + 1).toNat = (hereB os p (furth os m)).length + 1 := by omega
  rw [eN]
  generalize hR : furth os m = R at *
  refine wFor_inv (fun i ρ => ∃ (us : List Val) (x5 x11 x12 x13 x14 : Slot), ρ = [.sh (vT m), .sh (.lst (os.map rT)), .sh (rT p), .sh (.lst (R.map rT)), .sh (.int (gapn os p)), x5, .sh (.lst ((hereB os p R).map rT)), .sh (.lst ((awayB os p R).map rT)), .sh (.lst ((asc (os ++ [p])).map rT)), .own 1 (.lst (us.map vT)), .sh (.lst ((asc (os ++ R)).map rT)), x11, x12, x13, x14] ∧
      us.length ≤ 2 * i ∧ ∀ u ∈ us, WV u ∧ dep u = dep m) ⟨[], _, _, _, _, _, rfl, Nat.le_refl _, fun _ z => (nomatch z)⟩ ?_ ?_
  · rintro low d ρ K hd ⟨us, x5, x11, x12, x13, x14, rfl, hul, hus⟩ hK
    obtain ⟨hlow, rfl⟩ := rng_at hd
    simp only [b_l_bundle_2, wSs, wS, w, mk, bOf, wEs, wXs, wP, wI, wIfs, wAnd, wOr, rd, L3.startT, frz, frz1, List.foldl, List.map, List.length, endsOf, List.cons_append, List.nil_append, List.replicate, List.set, Co.w, Bo.w, Bf.w, wCmp, wGcd, wFdv, wNeg, wMul, wAdd, wSub, wMod, wPar, Ms.fl, wMs, setM, Tg.w, wTup_cons, wTup_nil, wLcE, wF, List.getElem?_cons_zero, List.getElem?_cons_succ, List.set_cons_zero, List.set_cons_succ, Nat.reduceSub, Nat.reduceAdd, List.length_cons, List.length_nil, List.map_cons, List.map_nil, List.foldl_nil, List.replicate_succ, List.replicate_zero, Nat.reduceEqDiff, if_false, if_true, T.bl.injEq, T.int.injEq, T.str.injEq, T.tup.injEq, T.lst.injEq, exists_eq_left', true_or, and_true, true_and, reduceCtorEq, reduceIte, decide_eq_true_eq, seqT, Option.some.injEq, wipeT, wRev, wSl, false_or, or_true, bneF, bneT, Int.toNat_natCast, okB_int, okB_non, okB_rT, okB_rTs, okB_rTt, ownL, wLt, wIn, inT_rTs, okE_int, okE_str, okE_rT, okE_rTs, okE_rTt, okE_nil, tyIs, wListF, wCatF, timesT, wZip]
    rw [List.length_map]
    have eon : (1 + (if (low : Int) < ((hereB os p R).length : Int) then (1 : Int) else 0)) = ((1 + if low < (hereB os p R).length then 1 else 0 : Nat) : Int) := by
      by_cases h : low < (hereB os p R).length
      · rw [if_pos (by omega), if_pos h]; rfl
      · rw [if_neg (by omega), if_neg h]; rfl
    rw [eon]
    have eon1 : (if low < (hereB os p R).length then 1 else 0 : Nat) ≤ 1 := by split <;> omega
    have eon2 : low + (if low < (hereB os p R).length then 1 else 0 : Nat) ≤ (hereB os p R).length := by split <;> omega
    generalize (if low < (hereB os p R).length then 1 else 0 : Nat) = onn at eon1 eon2 ⊢
    clear eon
    refine ⟨by omega, by omega, ?_⟩
    rw [Int.toNat_natCast]
    refine wFor_inv (fun j ρ => ∃ (us : List Val) (x5 x12 x13 x14 : Slot), ρ = [.sh (vT m), .sh (.lst (os.map rT)), .sh (rT p), .sh (.lst (R.map rT)), .sh (.int (gapn os p)), x5, .sh (.lst ((hereB os p R).map rT)), .sh (.lst ((awayB os p R).map rT)), .sh (.lst ((asc (os ++ [p])).map rT)), .own 1 (.lst (us.map vT)), .sh (.lst ((asc (os ++ R)).map rT)), .sh (.int low), x12, x13, x14] ∧
        us.length ≤ 2 * low + j ∧ ∀ u ∈ us, WV u ∧ dep u = dep m) ⟨us, _, _, _, _, rfl, by omega, hus⟩ ?_ ?_
    · rintro on d ρ K2 hd ⟨us, x5, x12, x13, x14, rfl, hul, hus⟩ hK2
      obtain ⟨hon, rfl⟩ := rng_at hd
      have hon2 : low + on ≤ (hereB os p R).length := by omega
      have bN1 : ∀ r ∈ spr (asc (os ++ [p])) (gapn os p) low, bd (2 * k + 12) r := bits_spr hk1 bK (by rw [hKl]; omega) (by omega)
      have bN2 : ∀ r ∈ spr (asc (os ++ [p])) (gapn os p + 1) ((hereB os p R).length - low - on), bd (2 * k + 12) r := bits_spr hk1 bK (by rw [hKl]; omega) (by omega)
      have bN : ∀ r ∈ newsB os p R low on, bd (2 * k + 12) r := fun r hr => by
        unfold newsB at hr
        rcases List.mem_append.mp hr with hr | hr
        · rcases List.mem_append.mp hr with hr | hr
          · exact bN1 r hr
          · have e : r = p := by simpa using List.mem_of_mem_take hr
            rw [e]; exact hbp.mono (by omega)
        · exact bN2 r hr
      have bE : ∀ r ∈ os ++ awayB os p R ++ newsB os p R low on, bd (2 * k + 12) r := fun r hr => by
        rcases List.mem_append.mp hr with hr | hr
        · rcases List.mem_append.mp hr with hr | hr
          · exact (hb r hr).mono (by omega)
          · exact ok.bv.supp r (furth_in r (hR.symm ▸ (List.mem_filter.mp hr).1))
        · exact bN r hr
      have lN : (newsB os p R low on).length = (hereB os p R).length - on + ([p].take on).length := by
        unfold newsB
        rw [List.length_append, List.length_append, spr_len, spr_len]
        omega
      have lT : ([p].take on).length ≤ 1 := by rw [List.length_take]; exact Nat.min_le_right _ _
      have mok : MvOk m (asc (os ++ R)) (endsB os p R low on) := ⟨ok.wv, asc_asc, asc_asc, by
        rw [hOl, endsB_len hpo ho ndR (fun x hx => furth_out x (hR.symm ▸ hx)) hon2 (by omega)], fun r hr => by
        rw [asc_mem, List.mem_append, ← hR]; exact furth_sub r hr⟩
      simp only [b_l_bundle_1, wCall_of hsp, wSs, wS, w, mk, bOf, wEs, wXs, wP, wI, wIfs, wAnd, wOr, rd, L3.startT, frz, frz1, List.foldl, List.map, List.length, endsOf, List.cons_append, List.nil_append, List.replicate, List.set, Co.w, Bo.w, Bf.w, wCmp, wGcd, wFdv, wNeg, wMul, wAdd, wSub, wMod, wPar, Ms.fl, wMs, setM, Tg.w, wTup_cons, wTup_nil, wLcE, wF, List.getElem?_cons_zero, List.getElem?_cons_succ, List.set_cons_zero, List.set_cons_succ, Nat.reduceSub, Nat.reduceAdd, List.length_cons, List.length_nil, List.map_cons, List.map_nil, List.foldl_nil, List.replicate_succ, List.replicate_zero, Nat.reduceEqDiff, if_false, if_true, T.bl.injEq, T.int.injEq, T.str.injEq, T.tup.injEq, T.lst.injEq, exists_eq_left', true_or, and_true, true_and, reduceCtorEq, reduceIte, decide_eq_true_eq, seqT, Option.some.injEq, wipeT, wRev, wSl, false_or, or_true, bneF, bneT, Int.toNat_natCast, okB_int, okB_non, okB_rT, okB_rTs, okB_rTt, ownL, wLt, wIn, inT_rTs, okE_int, okE_str, okE_rT, okE_rTs, okE_rTt, okE_nil, tyIs, wListF, wCatF, timesT, wZip]
      refine ⟨asc (os ++ [p]), gapn os p, low, rfl, fun r hr => (bK r hr).mono (by omega), by rw [hKl]; omega, by rw [hKl]; omega, by omega, ?_⟩
      have eA : List.map rT os ++ List.map rT (awayB os p R) ++ (List.map rT (spr (asc (os ++ [p])) (gapn os p) low) ++ List.map rT ([p].take on) ++ List.map rT (spr (asc (os ++ [p])) (gapn os p + 1) ((hereB os p R).length - low - on))) = (os ++ awayB os p R ++ newsB os p R low on).map rT := by
        unfold newsB
        simp only [List.map_append]
      have lS1 := spr_len (ps := asc (os ++ [p])) (g := gapn os p) (n := low)
      have lS2 := spr_len (ps := asc (os ++ [p])) (g := gapn os p + 1) (n := (hereB os p R).length - low - on)
      have pok : PlOk D k (mvd m (asc (os ++ R)) (endsB os p R low on)) := ⟨WV_mvd mok, BV_mvd mok (by omega) hz fun r hr => by
        unfold endsB at hr; exact bE r (asc_mem.mp hr), by rw [dep_mvd]; exact ok.fit, by rw [vsz_mvd]; exact hz, by rw [dep_mvd]; exact ok.dp⟩
      have e3 : ((gapn os p : Nat) : Int) + 1 = ((gapn os p + 1 : Nat) : Int) := by omega
      have e4 : (((hereB os p R).length : Nat) : Int) - (low : Int) - (on : Int) = (((hereB os p R).length - low - on : Nat) : Int) := by omega
      rw [cut_to]
      simp only [List.length_map, wSs, wS, w, mk, bOf, wEs, wXs, wP, wI, wIfs, wAnd, wOr, rd, L3.startT, frz, frz1, List.foldl, List.map, List.length, endsOf, List.cons_append, List.nil_append, List.replicate, List.set, Co.w, Bo.w, Bf.w, wCmp, wGcd, wFdv, wNeg, wMul, wAdd, wSub, wMod, wPar, Ms.fl, wMs, setM, Tg.w, wTup_cons, wTup_nil, wLcE, wF, List.getElem?_cons_zero, List.getElem?_cons_succ, List.set_cons_zero, List.set_cons_succ, Nat.reduceSub, Nat.reduceAdd, List.length_cons, List.length_nil, List.map_cons, List.map_nil, List.foldl_nil, List.replicate_succ, List.replicate_zero, Nat.reduceEqDiff, if_false, if_true, T.bl.injEq, T.int.injEq, T.str.injEq, T.tup.injEq, T.lst.injEq, exists_eq_left', true_or, and_true, true_and, reduceCtorEq, reduceIte, decide_eq_true_eq, seqT, Option.some.injEq, wipeT, wRev, wSl, false_or, or_true, bneF, bneT, Int.toNat_natCast, okB_int, okB_non, okB_rT, okB_rTs, okB_rTt, ownL, wLt, wIn, inT_rTs, okE_int, okE_str, okE_rT, okE_rTs, okE_rTt, okE_nil, tyIs, wListF, wCatF, timesT, wZip]
      refine ⟨by rw [sizeLine_eq]; omega, by rw [lS1, sizeLine_eq]; omega, asc (os ++ [p]), gapn os p + 1, (hereB os p R).length - low - on, by rw [e3, e4], fun r hr => (bK r hr).mono (by omega), by rw [hKl]; omega, by rw [hKl]; omega, by omega, ?_⟩
      simp only [List.length_append, List.length_map, wSs, wS, w, mk, bOf, wEs, wXs, wP, wI, wIfs, wAnd, wOr, rd, L3.startT, frz, frz1, List.foldl, List.map, List.length, endsOf, List.cons_append, List.nil_append, List.replicate, List.set, Co.w, Bo.w, Bf.w, wCmp, wGcd, wFdv, wNeg, wMul, wAdd, wSub, wMod, wPar, Ms.fl, wMs, setM, Tg.w, wTup_cons, wTup_nil, wLcE, wF, List.getElem?_cons_zero, List.getElem?_cons_succ, List.set_cons_zero, List.set_cons_succ, Nat.reduceSub, Nat.reduceAdd, List.length_cons, List.length_nil, List.map_cons, List.map_nil, List.foldl_nil, List.replicate_succ, List.replicate_zero, Nat.reduceEqDiff, if_false, if_true, T.bl.injEq, T.int.injEq, T.str.injEq, T.tup.injEq, T.lst.injEq, exists_eq_left', true_or, and_true, true_and, reduceCtorEq, reduceIte, decide_eq_true_eq, seqT, Option.some.injEq, wipeT, wRev, wSl, false_or, or_true, bneF, bneT, Int.toNat_natCast, okB_int, okB_non, okB_rT, okB_rTs, okB_rTt, ownL, wLt, wIn, inT_rTs, okE_int, okE_str, okE_rT, okE_rTs, okE_rTt, okE_nil, tyIs, wListF, wCatF, timesT, wZip]
      rw [eA, lS1, lS2]
      have hRz : R.length ≤ vsz m := hfl
      have hA2 : (awayB os p R).length ≤ R.length := hA
      have lE : (os ++ awayB os p R ++ newsB os p R low on).length ≤ 5000 := by rw [List.length_append, List.length_append]; omega
      refine ⟨by rw [sizeLine_eq]; omega, by rw [sizeLine_eq]; omega, by rw [sizeLine_eq]; omega, ?_⟩
      simp only [wCall_of ha, wSs, wS, w, mk, bOf, wEs, wXs, wP, wI, wIfs, wAnd, wOr, rd, L3.startT, frz, frz1, List.foldl, List.map, List.length, endsOf, List.cons_append, List.nil_append, List.replicate, List.set, Co.w, Bo.w, Bf.w, wCmp, wGcd, wFdv, wNeg, wMul, wAdd, wSub, wMod, wPar, Ms.fl, wMs, setM, Tg.w, wTup_cons, wTup_nil, wLcE, wF, List.getElem?_cons_zero, List.getElem?_cons_succ, List.set_cons_zero, List.set_cons_succ, Nat.reduceSub, Nat.reduceAdd, List.length_cons, List.length_nil, List.map_cons, List.map_nil, List.foldl_nil, List.replicate_succ, List.replicate_zero, Nat.reduceEqDiff, if_false, if_true, T.bl.injEq, T.int.injEq, T.str.injEq, T.tup.injEq, T.lst.injEq, exists_eq_left', true_or, and_true, true_and, reduceCtorEq, reduceIte, decide_eq_true_eq, seqT, Option.some.injEq, wipeT, wRev, wSl, false_or, or_true, bneF, bneT, Int.toNat_natCast, okB_int, okB_non, okB_rT, okB_rTs, okB_rTt, ownL, wLt, wIn, inT_rTs, okE_int, okE_str, okE_rT, okE_rTs, okE_rTt, okE_nil, tyIs, wListF, wCatF, timesT, wZip]
      refine ⟨os ++ awayB os p R ++ newsB os p R low on, rfl, fun r hr => (bE r hr).mono (by omega), lE, ?_⟩
      simp only [wCall_of hm, wCall_of hp, wSs, wS, w, mk, bOf, wEs, wXs, wP, wI, wIfs, wAnd, wOr, rd, L3.startT, frz, frz1, List.foldl, List.map, List.length, endsOf, List.cons_append, List.nil_append, List.replicate, List.set, Co.w, Bo.w, Bf.w, wCmp, wGcd, wFdv, wNeg, wMul, wAdd, wSub, wMod, wPar, Ms.fl, wMs, setM, Tg.w, wTup_cons, wTup_nil, wLcE, wF, List.getElem?_cons_zero, List.getElem?_cons_succ, List.set_cons_zero, List.set_cons_succ, Nat.reduceSub, Nat.reduceAdd, List.length_cons, List.length_nil, List.map_cons, List.map_nil, List.foldl_nil, List.replicate_succ, List.replicate_zero, Nat.reduceEqDiff, if_false, if_true, T.bl.injEq, T.int.injEq, T.str.injEq, T.tup.injEq, T.lst.injEq, exists_eq_left', true_or, and_true, true_and, reduceCtorEq, reduceIte, decide_eq_true_eq, seqT, Option.some.injEq, wipeT, wRev, wSl, false_or, or_true, bneF, bneT, Int.toNat_natCast, okB_int, okB_non, okB_rT, okB_rTs, okB_rTt, ownL, wLt, wIn, inT_rTs, okE_int, okE_str, okE_rT, okE_rTs, okE_rTt, okE_nil, tyIs, wListF, wCatF, timesT, wZip]
      refine ⟨m, asc (os ++ R), endsB os p R low on, 2 * k + 12, rfl, mok, ok.bv, by omega, ok.fit, hz, fun r hr => by unfold endsB at hr; exact bE r (asc_mem.mp hr), by rw [hOl]; omega, ok.dp, ?_⟩
      refine ⟨_, asc (os ++ [p]), k, rfl, pok, asc_asc, hk1, bK, by rw [hKl]; omega, ?_⟩
      refine ⟨by rw [sizeLine_eq]; omega, ?_⟩
      exact hK2 _ ⟨us ++ [plc (mvd m (asc (os ++ R)) (endsB os p R low on)) (asc (os ++ [p]))], _, _, _, _, by rw [List.map_append]; rfl, by rw [List.length_append, List.length_singleton]; omega, fun u hu => (List.mem_append.mp hu).elim (hus u) fun z => by
        have e : u = plc (mvd m (asc (os ++ R)) (endsB os p R low on)) (asc (os ++ [p])) := by simpa using z
        rw [e, dep_plc, dep_mvd]
        exact ⟨WV_plc pok.wv asc_asc, rfl⟩⟩
    · rintro ρ ⟨us, x5, x12, x13, x14, rfl, hul, hus⟩
      rw [rangeT_len] at hul
      exact hK _ ⟨us, _, _, _, _, _, rfl, by omega, hus⟩
  · rintro ρ ⟨us, x5, x11, x12, x13, x14, rfl, hul, hus⟩
    simp only [wSs, wS, w, mk, bOf, wEs, wXs, wP, wI, wIfs, wAnd, wOr, rd, L3.startT, frz, frz1, List.foldl, List.map, List.length, endsOf, List.cons_append, List.nil_append, List.replicate, List.set, Co.w, Bo.w, Bf.w, wCmp, wGcd, wFdv, wNeg, wMul, wAdd, wSub, wMod, wPar, Ms.fl, wMs, setM, Tg.w, wTup_cons, wTup_nil, wLcE, wF, List.getElem?_cons_zero, List.getElem?_cons_succ, List.set_cons_zero, List.set_cons_succ, Nat.reduceSub, Nat.reduceAdd, List.length_cons, List.length_nil, List.map_cons, List.map_nil, List.foldl_nil, List.replicate_succ, List.replicate_zero, Nat.reduceEqDiff, if_false, if_true, T.bl.injEq, T.int.injEq, T.str.injEq, T.tup.injEq, T.lst.injEq, exists_eq_left', true_or, and_true, true_and, reduceCtorEq, reduceIte, decide_eq_true_eq, seqT, Option.some.injEq, wipeT, wRev, wSl, false_or, or_true, bneF, bneT, Int.toNat_natCast, okB_int, okB_non, okB_rT, okB_rTs, okB_rTt, ownL, wLt, wIn, inT_rTs, okE_int, okE_str, okE_rT, okE_rTs, okE_rTt, okE_nil, tyIs, wListF, wCatF, timesT, wZip]
    rw [rangeT_len] at hul
    exact q us (by omega) hus
end LawP

set_option exponentiation.threshold 4000
/-! LW6: equality of values; words of the laws' own helpers: sets made. -/
namespace LawP
open PySem PySem.Spec PyProof.Rows L2 L3

/-! ### equality -/
theorem eqvAll_iff {α : Type} {f : α → T} : ∀ xs ys : List α, (∀ a ∈ xs, ∀ b, L3.eqT (f a) (f b) = true ↔ a = b) → (PyData.eqvAll (toPys (xs.map f)) (toPys (ys.map f)) = true ↔ xs = ys)
  | [], [], _ => by simp [toPys, PyData.eqvAll]
  | x :: xs, [], _ => by simp [toPys, PyData.eqvAll]
  | [], y :: ys, _ => by simp [toPys, PyData.eqvAll]
  | x :: xs, y :: ys, h => by
    simp only [List.map_cons, toPys, PyData.eqvAll]
    rw [Bool.and_eq_true, eqvAll_iff xs ys fun a ha => h a (List.mem_cons_of_mem _ ha), show PyData.eqv (toPy (f x)) (toPy (f y)) = L3.eqT (f x) (f y) from rfl, h x List.mem_cons_self y, List.cons.injEq]
theorem eqT_cons {x y : T} {xs ys : List T} : L3.eqT (.tup (x :: xs)) (.tup (y :: ys)) = (L3.eqT x y && PyData.eqvAll (toPys xs) (toPys ys)) := by
  rw [eqT_tup, toPys, toPys, PyData.eqvAll]
  rfl
theorem eqT_st {s : Str} {xs : List T} : L3.eqT (.str s) (.tup xs) = false := by unfold L3.eqT toPy; first | rfl | simp [PyData.eqv]
theorem eqT_ts {s : Str} {xs : List T} : L3.eqT (.tup xs) (.str s) = false := by unfold L3.eqT toPy; first | rfl | simp [PyData.eqv]
theorem eqT_si {i : Int} {s : Str} : L3.eqT (.str s) (.int i) = false := by unfold L3.eqT toPy; first | rfl | simp [PyData.eqv]
theorem eqT_vT {v : Val} : ∀ {u : Val}, L3.eqT (vT v) (vT u) = true ↔ v = u := by
  induction v using Val.ind with
  | hw s =>
    intro u
    cases u with
    | word t => rw [vT, vT, eqT_str]; simp
    | pt r => rw [vT, vT, rT, eqT_st]; simp
    | row us => rw [vT, vT_row, eqT_st]; simp
    | set ps ms => rw [vT, vT_set, eqT_st]; simp
  | hp r =>
    intro u
    cases u with
    | word t => rw [vT, vT, rT, eqT_ts]; simp
    | pt s => rw [vT, vT, eqT_rT]; simp
    | row us => rw [vT, vT_row, rT, eqT_cons, eq_is]; simp
    | set ps ms => rw [vT, vT_set, rT, eqT_cons, eq_is]; simp
  | hr vs ih =>
    intro u
    cases u with
    | word t => rw [vT, vT_row, eqT_ts]; simp
    | pt s => rw [vT, vT_row, rT, eqT_cons, eqT_si]; simp
    | row us => rw [vT_row, vT_row, eqT_cons, eq_rr, Bool.true_and, eqvAll_iff vs us fun a ha b => ih a ha]; simp
    | set ps ms => rw [vT_row, vT_set, eqT_cons, eq_rs]; simp
  | hs ps ms ih =>
    intro u
    cases u with
    | word t => rw [vT, vT_set, eqT_ts]; simp
    | pt s => rw [vT, vT_set, rT, eqT_cons, eqT_si]; simp
    | row us => rw [vT_row, vT_set, eqT_cons, eq_sr]; simp
    | set qs ns =>
      rw [vT_set, vT_set, eqT_cons, eq_ss, Bool.true_and]
      simp only [toPys, toPy, PyData.eqvAll, PyData.eqv, Bool.and_true]
      rw [Bool.and_eq_true, eqvAll_iff ps qs fun a _ b => by rw [eqT_rT]; simp, eqvAll_iff ms ns fun a ha b => ih a ha]
      simp
theorem okD_v {v : Val} : WV v → okD (2 * dep v + 1) (vT v) = true := by
  induction v using Val.ind with
  | hw s => intro h; rw [vT]; exact h.1
  | hp r => intro _; rw [vT]; exact okD_rT
  | hr vs ih =>
    intro h
    rw [WV, WVL_iff] at h
    rw [vT_row, dep, show 2 * (1 + depL vs) + 1 = (2 * depL vs + 2) + 1 by omega, okD, List.all_cons, Bool.and_eq_true]
    refine ⟨by show PyData.strOk "row" = true; exact ok_row, List.all_eq_true.mpr fun x hx => ?_⟩
    obtain ⟨v, hv, rfl⟩ := List.mem_map.mp hx
    have := dep_mem hv
    exact okD_mono (ih v hv (h v hv)) (by omega)
  | hs ps ms ih =>
    intro h
    rw [WV, WVL_iff] at h
    rw [vT_set, dep, show 2 * (1 + depL ms) + 1 = (2 * depL ms + 1 + 1) + 1 by omega, okD, List.all_cons, List.all_cons, List.all_cons, Bool.and_eq_true, Bool.and_eq_true, Bool.and_eq_true, okD, okD]
    refine ⟨by show PyData.strOk "set" = true; exact ok_set, List.all_eq_true.mpr fun x hx => ?_, List.all_eq_true.mpr fun x hx => ?_, rfl⟩
    · obtain ⟨r, hr, rfl⟩ := List.mem_map.mp hx
      exact okD_rT
    · obtain ⟨v, hv, rfl⟩ := List.mem_map.mp hx
      have := dep_mem hv
      exact okD_mono (ih v hv (h.2 v hv)) (by omega)
theorem okB_v {v : Val} (h : WV v) (hd : dep v ≤ 29) : okB (vT v) = true := okD_mono (okD_v h) (by omega)
theorem okB_vs {vs : List Val} (h : ∀ v ∈ vs, WV v ∧ dep v ≤ 29) : okB (.lst (vs.map vT)) = true := okB_lst fun x hx => by
  obtain ⟨v, hv, rfl⟩ := List.mem_map.mp hx
  exact okD_mono (okD_v (h v hv).1) (by have := (h v hv).2; omega)
theorem inT_v {v : Val} {vs : List Val} : inT (vT v) (vs.map vT) = true ↔ v ∈ vs := by
  unfold inT
  rw [List.any_map, List.any_eq_true]
  simp only [Function.comp, eqT_vT]
  exact ⟨fun ⟨x, h, e⟩ => e ▸ h, fun h => ⟨v, h, rfl⟩⟩
/-! ### comprehensions of which we only know what kind of thing they hold -/
theorem wLc_any {α : Type} {f0 : α → T} {P : T → Prop} {g : WG} {wt : WT} {we : WE} {ρ0 : Rho} {Q : List T → Prop} : ∀ (xs : List α) (acc : List T), acc.length + xs.length < sizeLine →
    (∀ x ∈ xs, ∀ (K : T → Prop) (K' : Prop) (N : Ex → Prop), (∀ d, P d → K d) → g (f0 x) ρ0 fun ρ1 => wt ρ1 (fun b => if b = true then we ρ1 K NoEx else K') N) →
    (∀ ys : List T, ys.length = xs.length → (∀ y ∈ ys, P y) → Q (acc ++ ys)) → wLc g wt we ρ0 Q (xs.map f0) acc
  | [], acc, _, _, q => by
    have := q [] rfl fun _ h => (nomatch h)
    rw [List.append_nil] at this
    simpa [wLc] using this
  | x :: xs, acc, hl, h, q => by
    rw [List.length_cons] at hl
    rw [List.map_cons]
    unfold wLc
    refine h x List.mem_cons_self _ _ _ fun d hd => ⟨by omega, ?_⟩
    refine wLc_any xs (acc ++ [d]) (by rw [List.length_append, List.length_singleton]; omega) (fun y hy => h y (List.mem_cons_of_mem _ hy)) fun ys hl hp => ?_
    rw [List.append_assoc]
    exact q (d :: ys) (by rw [List.length_cons, List.length_cons, hl]) fun y hy => (List.mem_cons.mp hy).elim (fun e => e ▸ hd) (hp y)
theorem bls_any : ∀ {ys : List T}, (∀ y ∈ ys, ∃ b, y = .bl b) → ∃ bs, blsT ys = some bs
  | [], _ => ⟨[], rfl⟩
  | y :: ys, h => by
    obtain ⟨b, rfl⟩ := h y List.mem_cons_self
    obtain ⟨bs, hb⟩ := bls_any fun z hz => h z (List.mem_cons_of_mem _ hz)
    exact ⟨b :: bs, by rw [blsT, hb]; rfl⟩
theorem vals_any {P : Val → Prop} : ∀ {ys : List T}, (∀ y ∈ ys, ∃ v, y = vT v ∧ P v) → ∃ vs : List Val, ys = vs.map vT ∧ ∀ v ∈ vs, P v
  | [], _ => ⟨[], rfl, fun _ h => (nomatch h)⟩
  | y :: ys, h => by
    obtain ⟨v, rfl, hv⟩ := h y List.mem_cons_self
    obtain ⟨vs, rfl, hb⟩ := vals_any fun z hz => h z (List.mem_cons_of_mem _ hz)
    exact ⟨v :: vs, rfl, fun u hu => (List.mem_cons.mp hu).elim (fun e => e ▸ hv) (hb u)⟩
/-! ### sets made -/
/-- what the places of all of some values keep -/
structure Told (D k n s c : Nat) (qs : List Rat) (vs : List Val) : Prop where
  all : ∀ v ∈ vs, PlOk D k v ∧ dep v ≤ n ∧ ∃ u, PlOk D k u ∧ v = plc u qs
  sz : vszL vs ≤ s
  nd : vs.Nodup
  ln : vs.length ≤ c
theorem vszL_app : ∀ {a b : List Val}, vszL (a ++ b) = vszL a + vszL b
  | [], b => by simp [vszL]
  | x :: a, b => by rw [List.cons_append, vszL, vszL, vszL_app]; omega
def sp_lmade (D : Nat) : VSp := fun ds Q _ => ∃ (ps : List Rat) (vs : List Val) (k : Nat), ds = [.lst (ps.map rT), .lst (vs.map vT)] ∧ Asc ps ∧ 1 ≤ k ∧ (∀ r ∈ ps, bd k r) ∧ ps.length ≤ 800 ∧ (∀ v ∈ vs, PlOk D k v) ∧ vszL vs ≤ 1000 ∧ D ≤ 29 ∧
  ∀ (qs : List Rat) (ms : List Val), Asc qs → (∀ r ∈ qs, r ∈ ps) → qs.length ≤ ps.length → Told D k (depL vs) (vszL vs) vs.length qs ms → Q (vT (.set qs (sortV ms)))
open Classical in
theorem told_add {D k n s c : Nat} {qs : List Rat} {ms : List Val} {v u : Val} (h : Told D k n s c qs ms) (hu : PlOk D k u) (e : v = plc u qs) (hv : PlOk D k v) (hd : dep v ≤ n) : Told D k n (s + vsz v) (c + 1) qs (if v ∈ ms then ms else ms ++ [v]) := by
  by_cases hm : v ∈ ms
  · rw [if_pos hm]
    exact ⟨h.all, by have := h.sz; omega, h.nd, by have := h.ln; omega⟩
  · rw [if_neg hm]
    refine ⟨fun w hw => ?_, ?_, List.nodup_append.mpr ⟨h.nd, by simp, fun a ha b hb e => hm (by rw [← List.mem_singleton.mp hb, ← e]; exact ha)⟩, by have := h.ln; rw [List.length_append, List.length_singleton]; omega⟩
    · rcases List.mem_append.mp hw with hw | hw
      · exact h.all w hw
      · rw [List.mem_singleton.mp hw]
        exact ⟨hv, hd, u, hu, e⟩
    · rw [vszL_app, vszL, vszL]
      have := h.sz
      omega
theorem vszL_take {vs : List Val} {i : Nat} {v : Val} (h : vs[i]? = some v) : vszL (vs.take (i + 1)) = vszL (vs.take i) + vsz v := by
  rw [List.take_add_one, h, vszL_app]
  rfl
theorem vszL_take_le {vs : List Val} {i : Nat} : vszL (vs.take i) ≤ vszL vs := by
  conv => rhs; rw [← List.take_append_drop i vs]
  rw [vszL_app]; omega
theorem PlOk.k1 {D k : Nat} {v : Val} (h : PlOk D k v) : k ≤ 388 := h.k
theorem ws_l_made {G : Gt} {D : Nat} (hp : G "_law_placed" = some ⟨2, 0, sp_lplaced D⟩) (hb : G "_law_bundle" = some ⟨3, 0, sp_lbundle D⟩) (ht : G "_law_text" = some ⟨1, 0, sp_ltext D⟩)
    (ds : List T) (Q : T → Prop) (E : Ex → Prop) (h : sp_lmade D ds Q E) :
    wSs G b_l_made (L3.startT ["_law_points", "_law_values", "_law_told", "_law_value", "_law_there", "_law_point_here", "_law_others", "_law_one", "_law_member", "_law_fewer"] ds) (endsOf 0 Q E) := by
  obtain ⟨ps, vs, k, rfl, hps, hk1, hbp, hpl, hvs, hvz, hD, q⟩ := h
  have hvl := len_vszL (vs := vs)
  simp only [b_l_made, wSs, wS, w, mk, bOf, wEs, wXs, wP, wI, wIfs, wAnd, wOr, rd, L3.startT, frz, frz1, List.foldl, List.map, List.length, endsOf, List.cons_append, List.nil_append, List.replicate, List.set, Co.w, Bo.w, Bf.w, wCmp, wGcd, wFdv, wNeg, wMul, wAdd, wSub, wMod, wPar, Ms.fl, wMs, setM, Tg.w, wTup_cons, wTup_nil, wLcE, wF, List.getElem?_cons_zero, List.getElem?_cons_succ, List.set_cons_zero, List.set_cons_succ, Nat.reduceSub, Nat.reduceAdd, List.length_cons, List.length_nil, List.map_cons, List.map_nil, List.foldl_nil, List.replicate_succ, List.replicate_zero, Nat.reduceEqDiff, if_false, if_true, T.bl.injEq, T.int.injEq, T.str.injEq, T.tup.injEq, T.lst.injEq, exists_eq_left', true_or, and_true, true_and, reduceCtorEq, reduceIte, decide_eq_true_eq, seqT, Option.some.injEq, wipeT, wRev, wSl, false_or, or_true, bneF, bneT, Int.toNat_natCast, okB_int, okB_non, okB_rT, okB_rTs, okB_rTt, ownL, wLt, wIn, inT_rTs, okE_int, okE_str, okE_rT, okE_rTs, okE_rTt, okE_nil, tyIs, wListF, wCatF, timesT, wZip]
  refine ⟨Nat.zero_le _, ?_⟩
  refine wFor_inv (fun i ρ => ∃ (ms : List Val) (x3 x4 x5 x6 x7 x8 x9 : Slot), ρ = [.sh (.lst (ps.map rT)), .sh (.lst (vs.map vT)), .sh (.lst (ms.map vT)), x3, x4, x5, x6, x7, x8, x9] ∧ Told D k (depL vs) (vszL (vs.take i)) i ps ms)
    ⟨[], _, _, _, _, _, _, _, rfl, ⟨fun _ z => (nomatch z), Nat.zero_le _, List.nodup_nil, Nat.le_refl _⟩⟩ ?_ ?_
  · rintro i d ρ K hd ⟨ms, x3, x4, x5, x6, x7, x8, x9, rfl, tl⟩ hK
    rw [List.getElem?_map] at hd
    obtain ⟨v, hv, rfl⟩ := Option.map_eq_some_iff.mp hd
    have hm := List.mem_of_getElem? hv
    have ok := hvs v hm
    have okp := ok.plc hps hk1 hbp
    simp only [b_l_made_7, wCall_of hp, wSs, wS, w, mk, bOf, wEs, wXs, wP, wI, wIfs, wAnd, wOr, rd, L3.startT, frz, frz1, List.foldl, List.map, List.length, endsOf, List.cons_append, List.nil_append, List.replicate, List.set, Co.w, Bo.w, Bf.w, wCmp, wGcd, wFdv, wNeg, wMul, wAdd, wSub, wMod, wPar, Ms.fl, wMs, setM, Tg.w, wTup_cons, wTup_nil, wLcE, wF, List.getElem?_cons_zero, List.getElem?_cons_succ, List.set_cons_zero, List.set_cons_succ, Nat.reduceSub, Nat.reduceAdd, List.length_cons, List.length_nil, List.map_cons, List.map_nil, List.foldl_nil, List.replicate_succ, List.replicate_zero, Nat.reduceEqDiff, if_false, if_true, T.bl.injEq, T.int.injEq, T.str.injEq, T.tup.injEq, T.lst.injEq, exists_eq_left', true_or, and_true, true_and, reduceCtorEq, reduceIte, decide_eq_true_eq, seqT, Option.some.injEq, wipeT, wRev, wSl, false_or, or_true, bneF, bneT, Int.toNat_natCast, okB_int, okB_non, okB_rT, okB_rTs, okB_rTt, ownL, wLt, wIn, inT_rTs, okE_int, okE_str, okE_rT, okE_rTs, okE_rTt, okE_nil, tyIs, wListF, wCatF, timesT, wZip]
    refine ⟨v, ps, k, rfl, ok, hps, hk1, hbp, by omega, ?_⟩
    have o1 := okB_v okp.wv (by have := okp.dp; omega)
    have o2 : okB (.lst (ms.map vT)) = true := okB_vs fun m hm => ⟨(tl.all m hm).1.wv, by have := (tl.all m hm).1.dp; omega⟩
    have tl2 := told_add tl ok rfl okp (by rw [dep_plc]; exact dep_mem hm)
    rw [vsz_plc, ← vszL_take hv] at tl2
    refine ⟨o1, o2, ?_⟩
    have hml : ms.length ≤ i := tl.ln
    have hi : i < vs.length := (List.getElem?_eq_some_iff.mp hv).1
    by_cases hg : plc v ps ∈ ms
    · rw [if_pos (inT_v.mpr hg)]
      rw [if_pos hg] at tl2
      exact hK _ ⟨ms, _, _, _, _, _, _, _, rfl, tl2⟩
    · rw [if_neg fun z => hg (inT_v.mp z)]
      rw [if_neg hg] at tl2
      refine ⟨by decide, by rw [List.length_map]; exact Nat.le_of_lt (small5000 (by omega)), ?_⟩
      exact hK _ ⟨ms ++ [plc v ps], _, _, _, _, _, _, _, by rw [List.map_append]; rfl, tl2⟩
  · rintro ρ ⟨ms, x3, x4, x5, x6, x7, x8, x9, rfl, tl⟩
    simp only [wSs, wS, w, mk, bOf, wEs, wXs, wP, wI, wIfs, wAnd, wOr, rd, L3.startT, frz, frz1, List.foldl, List.map, List.length, endsOf, List.cons_append, List.nil_append, List.replicate, List.set, Co.w, Bo.w, Bf.w, wCmp, wGcd, wFdv, wNeg, wMul, wAdd, wSub, wMod, wPar, Ms.fl, wMs, setM, Tg.w, wTup_cons, wTup_nil, wLcE, wF, List.getElem?_cons_zero, List.getElem?_cons_succ, List.set_cons_zero, List.set_cons_succ, Nat.reduceSub, Nat.reduceAdd, List.length_cons, List.length_nil, List.map_cons, List.map_nil, List.foldl_nil, List.replicate_succ, List.replicate_zero, Nat.reduceEqDiff, if_false, if_true, T.bl.injEq, T.int.injEq, T.str.injEq, T.tup.injEq, T.lst.injEq, exists_eq_left', true_or, and_true, true_and, reduceCtorEq, reduceIte, decide_eq_true_eq, seqT, Option.some.injEq, wipeT, wRev, wSl, false_or, or_true, bneF, bneT, Int.toNat_natCast, okB_int, okB_non, okB_rT, okB_rTs, okB_rTt, ownL, wLt, wIn, inT_rTs, okE_int, okE_str, okE_rT, okE_rTs, okE_rTt, okE_nil, tyIs, wListF, wCatF, timesT, wZip]
    rw [List.length_map, List.take_length] at tl
    refine wFor_inv (fun i ρ => ∃ (qs : List Rat) (ms : List Val) (x3 x4 x5 x6 x7 x8 x9 : Slot), ρ = [.sh (.lst (qs.map rT)), .sh (.lst (vs.map vT)), .sh (.lst (ms.map vT)), x3, x4, x5, x6, x7, x8, x9] ∧ Asc qs ∧ (∀ r ∈ qs, r ∈ ps) ∧ qs.length ≤ ps.length ∧ Told D k (depL vs) (vszL vs) vs.length qs ms)
      ⟨ps, ms, _, _, _, _, _, _, _, rfl, hps, fun _ z => z, Nat.le_refl _, tl⟩ ?_ ?_
    · clear tl ms
      rintro i d ρ K hd ⟨qs, ms, x3, x4, x5, x6, x7, x8, x9, rfl, hqs, hqp, hql, tl⟩ hK
      rw [List.getElem?_map] at hd
      obtain ⟨x, hx, rfl⟩ := Option.map_eq_some_iff.mp hd
      have hxp := List.mem_of_getElem? hx
      have bq : ∀ r ∈ qs, bd k r := fun r hr => hbp r (hqp r hr)
      have hml : ms.length ≤ vs.length := tl.ln
      have ok29 : ∀ m ∈ ms, WV m ∧ dep m ≤ 29 := fun m hm => ⟨(tl.all m hm).1.wv, by have := (tl.all m hm).1.dp; omega⟩
      simp only [b_l_made_6, wSs, wS, w, mk, bOf, wEs, wXs, wP, wI, wIfs, wAnd, wOr, rd, L3.startT, frz, frz1, List.foldl, List.map, List.length, endsOf, List.cons_append, List.nil_append, List.replicate, List.set, Co.w, Bo.w, Bf.w, wCmp, wGcd, wFdv, wNeg, wMul, wAdd, wSub, wMod, wPar, Ms.fl, wMs, setM, Tg.w, wTup_cons, wTup_nil, wLcE, wF, List.getElem?_cons_zero, List.getElem?_cons_succ, List.set_cons_zero, List.set_cons_succ, Nat.reduceSub, Nat.reduceAdd, List.length_cons, List.length_nil, List.map_cons, List.map_nil, List.foldl_nil, List.replicate_succ, List.replicate_zero, Nat.reduceEqDiff, if_false, if_true, T.bl.injEq, T.int.injEq, T.str.injEq, T.tup.injEq, T.lst.injEq, exists_eq_left', true_or, and_true, true_and, reduceCtorEq, reduceIte, decide_eq_true_eq, seqT, Option.some.injEq, wipeT, wRev, wSl, false_or, or_true, bneF, bneT, Int.toNat_natCast, okB_int, okB_non, okB_rT, okB_rTs, okB_rTt, ownL, wLt, wIn, inT_rTs, okE_int, okE_str, okE_rT, okE_rTs, okE_rTt, okE_nil, tyIs, wListF, wCatF, timesT, wZip]
      refine wLc_over (f0 := rT) (p := fun r => !decide (r = x)) (F := rT) qs [] (by rw [List.length_nil, Nat.zero_add]; exact small5000 (by omega)) (fun z hz KK K' N k1 k2 => ?_) ?_
      · simp only [e_l_made_4, es_l_made_5, wEq, eqT_rT, wSs, wS, w, mk, bOf, wEs, wXs, wP, wI, wIfs, wAnd, wOr, rd, L3.startT, frz, frz1, List.foldl, List.map, List.length, endsOf, List.cons_append, List.nil_append, List.replicate, List.set, Co.w, Bo.w, Bf.w, wCmp, wGcd, wFdv, wNeg, wMul, wAdd, wSub, wMod, wPar, Ms.fl, wMs, setM, Tg.w, wTup_cons, wTup_nil, wLcE, wF, List.getElem?_cons_zero, List.getElem?_cons_succ, List.set_cons_zero, List.set_cons_succ, Nat.reduceSub, Nat.reduceAdd, List.length_cons, List.length_nil, List.map_cons, List.map_nil, List.foldl_nil, List.replicate_succ, List.replicate_zero, Nat.reduceEqDiff, if_false, if_true, T.bl.injEq, T.int.injEq, T.str.injEq, T.tup.injEq, T.lst.injEq, exists_eq_left', true_or, and_true, true_and, reduceCtorEq, reduceIte, decide_eq_true_eq, seqT, Option.some.injEq, wipeT, wRev, wSl, false_or, or_true, bneF, bneT, Int.toNat_natCast, okB_int, okB_non, okB_rT, okB_rTs, okB_rTt, ownL, wLt, wIn, inT_rTs, okE_int, okE_str, okE_rT, okE_rTs, okE_rTt, okE_nil, tyIs, wListF, wCatF, timesT, wZip]
        by_cases hg : z = x
        · rw [if_neg (by simp [hg])]; exact k2 (by simp [hg])
        · rw [if_pos (by simp [hg])]; exact k1 (by simp [hg])
      rw [List.nil_append]
      have hos : Asc (qs.filter fun r => !decide (r = x)) := hqs.filter _
      have hosq : ∀ r ∈ qs.filter (fun r => !decide (r = x)), r ∈ qs := fun r hr => (List.mem_filter.mp hr).1
      have hxo : x ∉ qs.filter (fun r => !decide (r = x)) := fun z => by simpa using (List.mem_filter.mp z).2
      have hol : (qs.filter (fun r => !decide (r = x))).length ≤ qs.length := List.length_filter_le _ _
      generalize qs.filter (fun r => !decide (r = x)) = os at hos hosq hxo hol ⊢
      refine wLc_any (P := fun d => ∃ b, d = .bl b) ms [] (by rw [List.length_nil, Nat.zero_add]; exact small5000 (by omega)) (fun m hm KK K' N kk => ?_) fun ys _ hy => ?_
      · simp only [e_l_made_2, wCall_of hb, wSs, wS, w, mk, bOf, wEs, wXs, wP, wI, wIfs, wAnd, wOr, rd, L3.startT, frz, frz1, List.foldl, List.map, List.length, endsOf, List.cons_append, List.nil_append, List.replicate, List.set, Co.w, Bo.w, Bf.w, wCmp, wGcd, wFdv, wNeg, wMul, wAdd, wSub, wMod, wPar, Ms.fl, wMs, setM, Tg.w, wTup_cons, wTup_nil, wLcE, wF, List.getElem?_cons_zero, List.getElem?_cons_succ, List.set_cons_zero, List.set_cons_succ, Nat.reduceSub, Nat.reduceAdd, List.length_cons, List.length_nil, List.map_cons, List.map_nil, List.foldl_nil, List.replicate_succ, List.replicate_zero, Nat.reduceEqDiff, if_false, if_true, T.bl.injEq, T.int.injEq, T.str.injEq, T.tup.injEq, T.lst.injEq, exists_eq_left', true_or, and_true, true_and, reduceCtorEq, reduceIte, decide_eq_true_eq, seqT, Option.some.injEq, wipeT, wRev, wSl, false_or, or_true, bneF, bneT, Int.toNat_natCast, okB_int, okB_non, okB_rT, okB_rTs, okB_rTt, ownL, wLt, wIn, inT_rTs, okE_int, okE_str, okE_rT, okE_rTs, okE_rTt, okE_nil, tyIs, wListF, wCatF, timesT, wZip]
        refine ⟨m, os, x, k, rfl, (tl.all m hm).1, hos, hxo, hk1, fun r hr => bq r (hosq r hr), hbp x hxp, by omega, fun us hul hus => ?_⟩
        have hz := (tl.all m hm).1.sz
        simp only [wSs, wS, w, mk, bOf, wEs, wXs, wP, wI, wIfs, wAnd, wOr, rd, L3.startT, frz, frz1, List.foldl, List.map, List.length, endsOf, List.cons_append, List.nil_append, List.replicate, List.set, Co.w, Bo.w, Bf.w, wCmp, wGcd, wFdv, wNeg, wMul, wAdd, wSub, wMod, wPar, Ms.fl, wMs, setM, Tg.w, wTup_cons, wTup_nil, wLcE, wF, List.getElem?_cons_zero, List.getElem?_cons_succ, List.set_cons_zero, List.set_cons_succ, Nat.reduceSub, Nat.reduceAdd, List.length_cons, List.length_nil, List.map_cons, List.map_nil, List.foldl_nil, List.replicate_succ, List.replicate_zero, Nat.reduceEqDiff, if_false, if_true, T.bl.injEq, T.int.injEq, T.str.injEq, T.tup.injEq, T.lst.injEq, exists_eq_left', true_or, and_true, true_and, reduceCtorEq, reduceIte, decide_eq_true_eq, seqT, Option.some.injEq, wipeT, wRev, wSl, false_or, or_true, bneF, bneT, Int.toNat_natCast, okB_int, okB_non, okB_rT, okB_rTs, okB_rTt, ownL, wLt, wIn, inT_rTs, okE_int, okE_str, okE_rT, okE_rTs, okE_rTt, okE_nil, tyIs, wListF, wCatF, timesT, wZip]
        refine wLc_any (P := fun d => ∃ b, d = .bl b) us [] (by rw [List.length_nil, Nat.zero_add]; exact small5000 (by omega)) (fun u hu KK K' N kk => ?_) fun ys _ hy => ?_
        · simp only [e_l_made_1, wSs, wS, w, mk, bOf, wEs, wXs, wP, wI, wIfs, wAnd, wOr, rd, L3.startT, frz, frz1, List.foldl, List.map, List.length, endsOf, List.cons_append, List.nil_append, List.replicate, List.set, Co.w, Bo.w, Bf.w, wCmp, wGcd, wFdv, wNeg, wMul, wAdd, wSub, wMod, wPar, Ms.fl, wMs, setM, Tg.w, wTup_cons, wTup_nil, wLcE, wF, List.getElem?_cons_zero, List.getElem?_cons_succ, List.set_cons_zero, List.set_cons_succ, Nat.reduceSub, Nat.reduceAdd, List.length_cons, List.length_nil, List.map_cons, List.map_nil, List.foldl_nil, List.replicate_succ, List.replicate_zero, Nat.reduceEqDiff, if_false, if_true, T.bl.injEq, T.int.injEq, T.str.injEq, T.tup.injEq, T.lst.injEq, exists_eq_left', true_or, and_true, true_and, reduceCtorEq, reduceIte, decide_eq_true_eq, seqT, Option.some.injEq, wipeT, wRev, wSl, false_or, or_true, bneF, bneT, Int.toNat_natCast, okB_int, okB_non, okB_rT, okB_rTs, okB_rTt, ownL, wLt, wIn, inT_rTs, okE_int, okE_str, okE_rT, okE_rTs, okE_rTt, okE_nil, tyIs, wListF, wCatF, timesT, wZip]
          exact ⟨okB_v (hus u hu).1 (by rw [(hus u hu).2]; exact (ok29 m hm).2), okB_vs ok29, kk _ ⟨_, rfl⟩⟩
        · obtain ⟨bs, hbs⟩ := bls_any hy
          exact ⟨bs, hbs, kk _ ⟨_, rfl⟩⟩
      · obtain ⟨bs, hbs⟩ := bls_any hy
        refine ⟨bs, hbs, ?_⟩
        by_cases hb' : bs.all id = true
        · rw [if_pos hb']
          refine ⟨Nat.zero_le _, ?_⟩
          have bo : ∀ r ∈ os, bd k r := fun r hr => bq r (hosq r hr)
          refine wFor_inv (fun i ρ => ∃ (fs : List Val) (x3 x4 x5 x7 x8 : Slot), ρ = [.sh (.lst (os.map rT)), .sh (.lst (vs.map vT)), .sh (.lst (ms.map vT)), x3, x4, x5, .sh (.lst (os.map rT)), x7, x8, .sh (.lst (fs.map vT))] ∧ Told D k (depL vs) (vszL (ms.take i)) i os fs)
            ⟨[], _, _, _, _, _, rfl, ⟨fun _ z => (nomatch z), Nat.zero_le _, List.nodup_nil, Nat.le_refl _⟩⟩ ?_ ?_
          · rintro i d ρ K2 hd ⟨fs, x3, x4, x5, x7, x8, rfl, tf⟩ hK2
            rw [List.getElem?_map] at hd
            obtain ⟨m, hm', rfl⟩ := Option.map_eq_some_iff.mp hd
            have hm := List.mem_of_getElem? hm'
            obtain ⟨ok, hmd, _⟩ := tl.all m hm
            have okp := ok.plc hos hk1 bo
            simp only [b_l_made_3, wCall_of hp, wSs, wS, w, mk, bOf, wEs, wXs, wP, wI, wIfs, wAnd, wOr, rd, L3.startT, frz, frz1, List.foldl, List.map, List.length, endsOf, List.cons_append, List.nil_append, List.replicate, List.set, Co.w, Bo.w, Bf.w, wCmp, wGcd, wFdv, wNeg, wMul, wAdd, wSub, wMod, wPar, Ms.fl, wMs, setM, Tg.w, wTup_cons, wTup_nil, wLcE, wF, List.getElem?_cons_zero, List.getElem?_cons_succ, List.set_cons_zero, List.set_cons_succ, Nat.reduceSub, Nat.reduceAdd, List.length_cons, List.length_nil, List.map_cons, List.map_nil, List.foldl_nil, List.replicate_succ, List.replicate_zero, Nat.reduceEqDiff, if_false, if_true, T.bl.injEq, T.int.injEq, T.str.injEq, T.tup.injEq, T.lst.injEq, exists_eq_left', true_or, and_true, true_and, reduceCtorEq, reduceIte, decide_eq_true_eq, seqT, Option.some.injEq, wipeT, wRev, wSl, false_or, or_true, bneF, bneT, Int.toNat_natCast, okB_int, okB_non, okB_rT, okB_rTs, okB_rTt, ownL, wLt, wIn, inT_rTs, okE_int, okE_str, okE_rT, okE_rTs, okE_rTt, okE_nil, tyIs, wListF, wCatF, timesT, wZip]
            refine ⟨m, os, k, rfl, ok, hos, hk1, bo, by omega, ?_⟩
            have o1 := okB_v okp.wv (by have := okp.dp; omega)
            have o2 : okB (.lst (fs.map vT)) = true := okB_vs fun m hm => ⟨(tf.all m hm).1.wv, by have := (tf.all m hm).1.dp; omega⟩
            have tl2 := told_add tf ok rfl okp (by rw [dep_plc]; exact hmd)
            rw [vsz_plc, ← vszL_take hm'] at tl2
            refine ⟨o1, o2, ?_⟩
            have hml2 : fs.length ≤ i := tf.ln
            have hi : i < ms.length := (List.getElem?_eq_some_iff.mp hm').1
            by_cases hg : plc m os ∈ fs
            · rw [if_pos (inT_v.mpr hg)]
              rw [if_pos hg] at tl2
              exact hK2 _ ⟨fs, _, _, _, _, _, rfl, tl2⟩
            · rw [if_neg fun z => hg (inT_v.mp z)]
              rw [if_neg hg] at tl2
              refine ⟨by decide, by rw [List.length_map]; exact Nat.le_of_lt (small5000 (by omega)), ?_⟩
              exact hK2 _ ⟨fs ++ [plc m os], _, _, _, _, _, by rw [List.map_append]; rfl, tl2⟩
          · rintro ρ ⟨fs, x3, x4, x5, x7, x8, rfl, tf⟩
            simp only [wSs, wS, w, mk, bOf, wEs, wXs, wP, wI, wIfs, wAnd, wOr, rd, L3.startT, frz, frz1, List.foldl, List.map, List.length, endsOf, List.cons_append, List.nil_append, List.replicate, List.set, Co.w, Bo.w, Bf.w, wCmp, wGcd, wFdv, wNeg, wMul, wAdd, wSub, wMod, wPar, Ms.fl, wMs, setM, Tg.w, wTup_cons, wTup_nil, wLcE, wF, List.getElem?_cons_zero, List.getElem?_cons_succ, List.set_cons_zero, List.set_cons_succ, Nat.reduceSub, Nat.reduceAdd, List.length_cons, List.length_nil, List.map_cons, List.map_nil, List.foldl_nil, List.replicate_succ, List.replicate_zero, Nat.reduceEqDiff, if_false, if_true, T.bl.injEq, T.int.injEq, T.str.injEq, T.tup.injEq, T.lst.injEq, exists_eq_left', true_or, and_true, true_and, reduceCtorEq, reduceIte, decide_eq_true_eq, seqT, Option.some.injEq, wipeT, wRev, wSl, false_or, or_true, bneF, bneT, Int.toNat_natCast, okB_int, okB_non, okB_rT, okB_rTs, okB_rTt, ownL, wLt, wIn, inT_rTs, okE_int, okE_str, okE_rT, okE_rTs, okE_rTt, okE_nil, tyIs, wListF, wCatF, timesT, wZip]
            rw [List.length_map, List.take_length] at tf
            exact hK _ ⟨os, fs, _, _, _, _, _, _, _, rfl, hos, fun r hr => hqp r (hosq r hr), by omega, ⟨tf.all, Nat.le_trans tf.sz tl.sz, tf.nd, Nat.le_trans tf.ln hml⟩⟩
        · rw [if_neg hb']
          exact hK _ ⟨qs, ms, _, _, _, _, _, _, _, rfl, hqs, hqp, hql, tl⟩
    · rintro ρ ⟨qs, ms, x3, x4, x5, x6, x7, x8, x9, rfl, hqs, hqp, hql, tl⟩
      simp only [wSs, wS, w, mk, bOf, wEs, wXs, wP, wI, wIfs, wAnd, wOr, rd, L3.startT, frz, frz1, List.foldl, List.map, List.length, endsOf, List.cons_append, List.nil_append, List.replicate, List.set, Co.w, Bo.w, Bf.w, wCmp, wGcd, wFdv, wNeg, wMul, wAdd, wSub, wMod, wPar, Ms.fl, wMs, setM, Tg.w, wTup_cons, wTup_nil, wLcE, wF, List.getElem?_cons_zero, List.getElem?_cons_succ, List.set_cons_zero, List.set_cons_succ, Nat.reduceSub, Nat.reduceAdd, List.length_cons, List.length_nil, List.map_cons, List.map_nil, List.foldl_nil, List.replicate_succ, List.replicate_zero, Nat.reduceEqDiff, if_false, if_true, T.bl.injEq, T.int.injEq, T.str.injEq, T.tup.injEq, T.lst.injEq, exists_eq_left', true_or, and_true, true_and, reduceCtorEq, reduceIte, decide_eq_true_eq, seqT, Option.some.injEq, wipeT, wRev, wSl, false_or, or_true, bneF, bneT, Int.toNat_natCast, okB_int, okB_non, okB_rT, okB_rTs, okB_rTt, ownL, wLt, wIn, inT_rTs, okE_int, okE_str, okE_rT, okE_rTs, okE_rTt, okE_nil, tyIs, wListF, wCatF, timesT, wZip]
      refine ⟨_, keyV, rfl, fun x hx Q' q' => ?_, by decide, ?_⟩
      · obtain ⟨m, hmm, rfl⟩ := List.mem_map.mp hx
        rw [keyV_at] at q'
        have ok := (tl.all m hmm).1
        simp only [wCall_of ht, wSs, wS, w, mk, bOf, wEs, wXs, wP, wI, wIfs, wAnd, wOr, rd, L3.startT, frz, frz1, List.foldl, List.map, List.length, endsOf, List.cons_append, List.nil_append, List.replicate, List.set, Co.w, Bo.w, Bf.w, wCmp, wGcd, wFdv, wNeg, wMul, wAdd, wSub, wMod, wPar, Ms.fl, wMs, setM, Tg.w, wTup_cons, wTup_nil, wLcE, wF, List.getElem?_cons_zero, List.getElem?_cons_succ, List.set_cons_zero, List.set_cons_succ, Nat.reduceSub, Nat.reduceAdd, List.length_cons, List.length_nil, List.map_cons, List.map_nil, List.foldl_nil, List.replicate_succ, List.replicate_zero, Nat.reduceEqDiff, if_false, if_true, T.bl.injEq, T.int.injEq, T.str.injEq, T.tup.injEq, T.lst.injEq, exists_eq_left', true_or, and_true, true_and, reduceCtorEq, reduceIte, decide_eq_true_eq, seqT, Option.some.injEq, wipeT, wRev, wSl, false_or, or_true, bneF, bneT, Int.toNat_natCast, okB_int, okB_non, okB_rT, okB_rTs, okB_rTt, ownL, wLt, wIn, inT_rTs, okE_int, okE_str, okE_rT, okE_rTs, okE_rTt, okE_nil, tyIs, wListF, wCatF, timesT, wZip]
        exact ⟨m, 2 * k + 12, rfl, ok.wv, ok.bv, Nat.le_trans ok.fit (by decide), ok.sz, ok.dp, q'⟩
      · rw [sortT_map fun v _ => keyV_at v]
        have := q qs ms hqs hqp hql tl
        rw [vT_set] at this
        exact this
end LawP

set_option exponentiation.threshold 4000
/-! LW7: words of the laws' own helpers: points, values and sets drawn. -/
namespace LawP
open PySem PySem.Spec PyProof.Rows L2 L3

/-! ### points -/
structure Drawn (rs : List Rat) (m : Nat) : Prop where
  len : rs.length = m
  asc : Asc rs
  bd : ∀ r ∈ rs, bd 6 r
def sp_ldraw : VSp := fun ds Q _ => ∃ (a : Addr) (m : Nat), ds = [.src 1 a, .int m] ∧ m ≤ 8 ∧ ∀ rs, Drawn rs m → Q (.lst (rs.map rT))
theorem mk_between {h t q : Int} (hq : 0 < q) (h0 : 0 ≤ t) (h1 : t < q) : (h : Rat) ≤ mkRat (h * q + t) q.toNat ∧ mkRat (h * q + t) q.toNat < ((h + 1 : Int) : Rat) := by
  rw [mk_int hq]
  have hq' : (0 : Rat) < (q : Rat) := by exact_mod_cast hq
  constructor
  · rw [← Rat.not_lt, Rat.div_lt_iff hq', Rat.not_lt]
    have : h * q ≤ h * q + t := by omega
    exact_mod_cast this
  · rw [Rat.div_lt_iff hq']
    have : h * q + t < (h + 1) * q := by rw [Int.add_mul]; omega
    exact_mod_cast this
theorem ws_l_draw {G : Gt} (h1 : G "_law_point" = some ⟨2, 0, sp_point⟩) (h2 : G "_law_pick" = some ⟨2, 0, spPick⟩) (ds : List T) (Q : T → Prop) (E : Ex → Prop) (h : sp_ldraw ds Q E) : wSs G b_l_draw_points (L3.startT ["_law_source", "_law_many", "_law_found", "_law_here", "_law_lap", "_law_q"] ds) (endsOf 0 Q E) := by
  obtain ⟨a, m, rfl, hm, q⟩ := h
  simp only [b_l_draw_points, wCall_of h2, wSs, wS, w, mk, bOf, wEs, wXs, wP, wI, wIfs, wAnd, wOr, rd, L3.startT, frz, frz1, List.foldl, List.map, List.length, endsOf, List.cons_append, List.nil_append, List.replicate, List.set, Co.w, Bo.w, Bf.w, wCmp, wGcd, wFdv, wNeg, wMul, wAdd, wSub, wMod, wPar, Ms.fl, wMs, setM, Tg.w, wTup_cons, wTup_nil, wLcE, wF, List.getElem?_cons_zero, List.getElem?_cons_succ, List.set_cons_zero, List.set_cons_succ, Nat.reduceSub, Nat.reduceAdd, List.length_cons, List.length_nil, List.map_cons, List.map_nil, List.foldl_nil, List.replicate_succ, List.replicate_zero, Nat.reduceEqDiff, if_false, if_true, T.bl.injEq, T.int.injEq, T.str.injEq, T.tup.injEq, T.lst.injEq, exists_eq_left', true_or, and_true, true_and, reduceCtorEq, reduceIte, decide_eq_true_eq, seqT, Option.some.injEq, wipeT, wRev, wSl, false_or, or_true, bneF, bneT, Int.toNat_natCast, okB_int, okB_non, okB_rT, okB_rTs, okB_rTt, ownL, wLt, wIn, inT_rTs, okE_int, okE_str, okE_rT, okE_rTs, okE_rTt, okE_nil, tyIs, wListF, wCatF, timesT, wZip]
  refine ⟨by decide, a, 5, rfl, by decide, fun r0 hr0 hr1 => ?_⟩
  refine ⟨by omega, by omega, ?_⟩
  refine wFor_inv (fun i ρ => ∃ (rs : List Rat) (here : Int) (x4 x5 : Slot), ρ = [.sh (.src 1 a), .sh (.int m), .own 1 (.lst (rs.map rT)), .sh (.int here), x4, x5] ∧ Drawn rs i ∧ (∀ r ∈ rs, r < (here : Rat)) ∧ -2 ≤ here ∧ here ≤ 2 + 2 * i)
    ⟨[], r0 - 2, .un, .un, rfl, ⟨rfl, List.Pairwise.nil, fun _ z => (nomatch z)⟩, fun _ z => (nomatch z), by omega, by omega⟩ ?_ ?_
  · rintro i d ρ K hd ⟨rs, here, x4, x5, rfl, ⟨e1, e2, e3⟩, e4, e5, e6⟩ hK
    have hi : i < m := by
      have := (List.getElem?_eq_some_iff.mp hd).1
      simpa [L3.rangeT] using this
    simp only [b_l_draw_points_1, wCall_of h1, wCall_of h2, wSs, wS, w, mk, bOf, wEs, wXs, wP, wI, wIfs, wAnd, wOr, rd, L3.startT, frz, frz1, List.foldl, List.map, List.length, endsOf, List.cons_append, List.nil_append, List.replicate, List.set, Co.w, Bo.w, Bf.w, wCmp, wGcd, wFdv, wNeg, wMul, wAdd, wSub, wMod, wPar, Ms.fl, wMs, setM, Tg.w, wTup_cons, wTup_nil, wLcE, wF, List.getElem?_cons_zero, List.getElem?_cons_succ, List.set_cons_zero, List.set_cons_succ, Nat.reduceSub, Nat.reduceAdd, List.length_cons, List.length_nil, List.map_cons, List.map_nil, List.foldl_nil, List.replicate_succ, List.replicate_zero, Nat.reduceEqDiff, if_false, if_true, T.bl.injEq, T.int.injEq, T.str.injEq, T.tup.injEq, T.lst.injEq, exists_eq_left', true_or, and_true, true_and, reduceCtorEq, reduceIte, decide_eq_true_eq, seqT, Option.some.injEq, wipeT, wRev, wSl, false_or, or_true, bneF, bneT, Int.toNat_natCast, okB_int, okB_non, okB_rT, okB_rTs, okB_rTt, ownL, wLt, wIn, inT_rTs, okE_int, okE_str, okE_rT, okE_rTs, okE_rTt, okE_nil, tyIs, wListF, wCatF, timesT, wZip]
    refine ⟨a, 3, rfl, by decide, fun r1 hr10 hr11 => ?_⟩
    have hq0 : (0 : Int) < 1 + r1 := by omega
    have hq1 : 1 + r1 ≤ 3 := by omega
    refine ⟨bd.cmul (k := 100) (by omega) (by omega) (by decide) (by decide), a, 1 + r1, rfl, by omega, fun r2 hr20 hr21 => ?_⟩
    have ht : r2 < 1 + r1 := by omega
    have hb : here * (1 + r1) ≤ 16 * 3 ∧ -6 ≤ here * (1 + r1) := by
      have c : r1 = 0 ∨ r1 = 1 ∨ r1 = 2 := by omega
      rcases c with rfl | rfl | rfl <;> omega
    refine ⟨_, _, rfl, hq0, two_le (j := 20) (by omega) (by decide), two_le (j := 20) (by omega) (by decide), ?_⟩
    have hl : (rs.map rT).length < sizeLine := by rw [List.length_map]; exact sz1000 (by omega)
    refine ⟨hl, a, 2, rfl, by decide, fun r3 hr30 hr31 => ?_⟩
    obtain ⟨b1, b2⟩ := mk_between (h := here) hq0 hr20 ht
    refine hK _ ⟨rs ++ [mkRat (here * (1 + r1) + r2) (1 + r1).toNat], here + 1 + r3, _, _, by rw [List.map_append]; rfl, ⟨?_, ?_, ?_⟩, ?_, by omega, by omega⟩
    · rw [List.length_append, e1]; rfl
    · refine List.pairwise_append.mpr ⟨e2, List.pairwise_singleton _ _, fun x hx y hy => ?_⟩
      rw [List.mem_singleton] at hy
      subst hy
      have := e4 x hx
      grind
    · intro r hr
      rcases List.mem_append.mp hr with hr | hr
      · exact e3 r hr
      · rw [List.mem_singleton] at hr
        subst hr
        exact bd_mk (by omega) (by omega) (by omega)
    · intro r hr
      have hh : ((here + 1 : Int) : Rat) ≤ ((here + 1 + r3 : Int) : Rat) := by
        have : here + 1 ≤ here + 1 + r3 := by omega
        exact_mod_cast this
      have hh2 : (here : Rat) ≤ ((here + 1 : Int) : Rat) := by
        have : here ≤ here + 1 := by omega
        exact_mod_cast this
      rcases List.mem_append.mp hr with hr | hr
      · have := e4 r hr
        grind
      · rw [List.mem_singleton] at hr
        subst hr
        grind
  · rintro ρ ⟨rs, here, x4, x5, rfl, hd, _⟩
    rw [show (L3.rangeT 0 m).length = m by simp [L3.rangeT]] at hd
    simp only [wSs, wS, w, mk, bOf, wEs, wXs, wP, wI, wIfs, wAnd, wOr, rd, L3.startT, frz, frz1, List.foldl, List.map, List.length, endsOf, List.cons_append, List.nil_append, List.replicate, List.set, Co.w, Bo.w, Bf.w, wCmp, wGcd, wFdv, wNeg, wMul, wAdd, wSub, wMod, wPar, Ms.fl, wMs, setM, Tg.w, wTup_cons, wTup_nil, wLcE, wF, List.getElem?_cons_zero, List.getElem?_cons_succ, List.set_cons_zero, List.set_cons_succ, Nat.reduceSub, Nat.reduceAdd, List.length_cons, List.length_nil, List.map_cons, List.map_nil, List.foldl_nil, List.replicate_succ, List.replicate_zero, Nat.reduceEqDiff, if_false, if_true, T.bl.injEq, T.int.injEq, T.str.injEq, T.tup.injEq, T.lst.injEq, exists_eq_left', true_or, and_true, true_and, reduceCtorEq, reduceIte, decide_eq_true_eq, seqT, Option.some.injEq, wipeT, wRev, wSl, false_or, or_true, bneF, bneT, Int.toNat_natCast, okB_int, okB_non, okB_rT, okB_rTs, okB_rTt, ownL, wLt, wIn, inT_rTs, okE_int, okE_str, okE_rT, okE_rTs, okE_rTt, okE_nil, tyIs, wListF, wCatF, timesT, wZip]
    exact q rs hd
/-! ### values and sets -/
/-- how large a value drawn n deep may be -/
def dsz : Nat → Nat
  | 0 => 1
  | n + 1 => 4 + 3 * dsz n
structure Dr (k n : Nat) (v : Val) : Prop where
  wv : WV v
  bv : BV k v
  dp : dep v ≤ n
  sz : vsz v ≤ dsz n
def DrPool (k n : Nat) (pool : List Rat) : Prop := 1 ≤ k ∧ (∀ r ∈ pool, bd k r) ∧ 0 < pool.length ∧ pool.length ≤ 20 ∧ n ≤ 4 ∧ (2 * k + 12 + 12) * 2 ^ n ≤ 800
def sp_ldval (d : Nat) : VSp := fun ds Q _ => ∃ (a : Addr) (pool : List Rat) (k n : Nat), ds = [.src 1 a, .lst (pool.map rT), .int n] ∧ DrPool k n pool ∧ n < d ∧ ∀ v, Dr k n v → Q (vT v)
def sp_ldset (d : Nat) : VSp := fun ds Q _ => ∃ (a : Addr) (pool : List Rat) (k n m : Nat), ds = [.src 1 a, .lst (pool.map rT), .int ((n + 1 : Nat) : Int), .int m] ∧ DrPool k (n + 1) pool ∧ n < d ∧ m ≤ 3 ∧ ∀ qs ms, Dr k (n + 1) (.set qs ms) → Q (vT (.set qs ms))
theorem DrPool.down {k n : Nat} {pool : List Rat} (h : DrPool k (n + 1) pool) : DrPool k n pool := ⟨h.1, h.2.1, h.2.2.1, h.2.2.2.1, by have := h.2.2.2.2.1; omega, by
  refine Nat.le_trans ?_ h.2.2.2.2.2
  exact Nat.mul_le_mul_left _ (Nat.pow_le_pow_right (by decide) (by omega))⟩
theorem pow4 {n : Nat} (h : n ≤ 4) : dsz n ≤ 241 := by
  have c : n = 0 ∨ n = 1 ∨ n = 2 ∨ n = 3 ∨ n = 4 := by omega
  rcases c with rfl | rfl | rfl | rfl | rfl <;> decide
theorem Dr.ok {D k n : Nat} {pool : List Rat} {v : Val} (h : Dr k n v) (hp : DrPool k n pool) (hD : n < D) : PlOk D k v := ⟨h.wv, h.bv.mono (by omega), by
  refine Nat.le_trans ?_ hp.2.2.2.2.2
  exact Nat.mul_le_mul_left _ (Nat.pow_le_pow_right (by decide) h.dp), by
  have h1 := h.sz
  have h2 := pow4 hp.2.2.2.2.1
  omega, by have := h.dp; omega⟩
theorem vszL_all {c : Nat} : ∀ {vs : List Val}, (∀ v ∈ vs, vsz v ≤ c) → vszL vs ≤ vs.length * c
  | [], _ => by simp [vszL]
  | v :: vs, h => by
    have h1 := h v List.mem_cons_self
    have h2 := vszL_all fun u hu => h u (List.mem_cons_of_mem _ hu)
    rw [vszL, List.length_cons, Nat.add_mul, Nat.one_mul]
    omega
theorem pts_any {P : Rat → Prop} : ∀ {ys : List T}, (∀ y ∈ ys, ∃ v, y = rT v ∧ P v) → ∃ vs : List Rat, ys = vs.map rT ∧ ∀ v ∈ vs, P v
  | [], _ => ⟨[], rfl, fun _ h => (nomatch h)⟩
  | y :: ys, h => by
    obtain ⟨v, rfl, hv⟩ := h y List.mem_cons_self
    obtain ⟨vs, rfl, hb⟩ := pts_any fun z hz => h z (List.mem_cons_of_mem _ hz)
    exact ⟨v :: vs, rfl, fun u hu => (List.mem_cons.mp hu).elim (fun e => e ▸ hv) (hb u)⟩
/-- a point of a list at a drawn place -/
theorem at_pick {pool : List Rat} {r : Int} (h0 : 0 ≤ r) (h1 : r < pool.length ∨ r = 0) (hp : 0 < pool.length) : ∃ p, p ∈ pool ∧ atI (pool.map rT) r = some (rT p) := by
  obtain ⟨j, rfl⟩ := Int.eq_ofNat_of_zero_le h0
  have hj : j < pool.length := by omega
  exact ⟨pool[j], List.getElem_mem hj, atI_pts (List.getElem?_eq_getElem hj)⟩
theorem rng_map {n : Nat} : L3.rangeT 0 n = (List.range n).map fun (i : Nat) => T.int (0 + (i : Int)) := rfl
theorem ws_l_dset {G : Gt} {d D : Nat} (hD : d < D) (hD2 : D ≤ 29) (hv : G "_law_draw_value" = some ⟨3, 0, sp_ldval d⟩) (h2 : G "_law_pick" = some ⟨2, 0, spPick⟩) (ha : G "_law_ascending" = some ⟨1, 0, sp_asc⟩) (hm : G "_law_made" = some ⟨2, 0, sp_lmade D⟩)
    (ds : List T) (Q : T → Prop) (E : Ex → Prop) (h : sp_ldset d ds Q E) : wSs G b_l_draw_set (L3.startT ["_law_source", "_law_pool", "_law_deep", "_law_most", "_law_points", "_law_lap"] ds) (endsOf 0 Q E) := by
  obtain ⟨a, pool, k, n, m, rfl, hp, hn, hm3, q⟩ := h
  obtain ⟨hk1, hpb, hp0, hp20, hn4, hfit⟩ := hp
  simp only [b_l_draw_set, wCall_of h2, wCall_of ha, wCall_of hm, wSs, wS, w, mk, bOf, wEs, wXs, wP, wI, wIfs, wAnd, wOr, rd, L3.startT, frz, frz1, List.foldl, List.map, List.length, endsOf, List.cons_append, List.nil_append, List.replicate, List.set, Co.w, Bo.w, Bf.w, wCmp, wGcd, wFdv, wNeg, wMul, wAdd, wSub, wMod, wPar, Ms.fl, wMs, setM, Tg.w, wTup_cons, wTup_nil, wLcE, wF, List.getElem?_cons_zero, List.getElem?_cons_succ, List.set_cons_zero, List.set_cons_succ, Nat.reduceSub, Nat.reduceAdd, List.length_cons, List.length_nil, List.map_cons, List.map_nil, List.foldl_nil, List.replicate_succ, List.replicate_zero, Nat.reduceEqDiff, if_false, if_true, T.bl.injEq, T.int.injEq, T.str.injEq, T.tup.injEq, T.lst.injEq, exists_eq_left', true_or, and_true, true_and, reduceCtorEq, reduceIte, decide_eq_true_eq, seqT, Option.some.injEq, wipeT, wRev, wSl, false_or, or_true, bneF, bneT, Int.toNat_natCast, okB_int, okB_non, okB_rT, okB_rTs, okB_rTt, ownL, wLt, wIn, inT_rTs, okE_int, okE_str, okE_rT, okE_rTs, okE_rTt, okE_nil, tyIs, wListF, wCatF, timesT, wZip]
  refine ⟨a, 3, rfl, by decide, fun r0 hr0 hr1 => ?_⟩
  refine ⟨_, rfl, by omega, by omega, ?_⟩
  rw [rng_map]
  refine wLc_any (P := fun d => ∃ r, d = rT r ∧ r ∈ pool) _ [] (by rw [List.length_nil, List.length_range]; exact small5000 (by omega)) (fun i hi KK K' N kk => ?_) fun ys hyl hy => ?_
  · simp only [e_l_draw_set_2, wCall_of h2, wIx, wSs, wS, w, mk, bOf, wEs, wXs, wP, wI, wIfs, wAnd, wOr, rd, L3.startT, frz, frz1, List.foldl, List.map, List.length, endsOf, List.cons_append, List.nil_append, List.replicate, List.set, Co.w, Bo.w, Bf.w, wCmp, wGcd, wFdv, wNeg, wMul, wAdd, wSub, wMod, wPar, Ms.fl, wMs, setM, Tg.w, wTup_cons, wTup_nil, wLcE, wF, List.getElem?_cons_zero, List.getElem?_cons_succ, List.set_cons_zero, List.set_cons_succ, Nat.reduceSub, Nat.reduceAdd, List.length_cons, List.length_nil, List.map_cons, List.map_nil, List.foldl_nil, List.replicate_succ, List.replicate_zero, Nat.reduceEqDiff, if_false, if_true, T.bl.injEq, T.int.injEq, T.str.injEq, T.tup.injEq, T.lst.injEq, exists_eq_left', true_or, and_true, true_and, reduceCtorEq, reduceIte, decide_eq_true_eq, seqT, Option.some.injEq, wipeT, wRev, wSl, false_or, or_true, bneF, bneT, Int.toNat_natCast, okB_int, okB_non, okB_rT, okB_rTs, okB_rTt, ownL, wLt, wIn, inT_rTs, okE_int, okE_str, okE_rT, okE_rTs, okE_rTt, okE_nil, tyIs, wListF, wCatF, timesT, wZip]
    refine ⟨a, _, rfl, by rw [List.length_map]; omega, fun r1 hr10 hr11 => ?_⟩
    obtain ⟨p, hp, e⟩ := at_pick hr10 (by rw [List.length_map] at hr11; exact_mod_cast hr11) hp0
    exact ⟨_, e, kk _ ⟨p, rfl, hp⟩⟩
  rw [List.length_range] at hyl
  obtain ⟨ps, rfl, hps⟩ := pts_any hy
  rw [List.nil_append]
  rw [List.length_map] at hyl
  have hk := fit_k hfit
  refine ⟨ps, rfl, fun r hr => (hpb r (hps r hr)).mono (by omega), by omega, ?_⟩
  refine ⟨a, _, rfl, by omega, fun r2 hr20 hr21 => ?_⟩
  refine ⟨_, rfl, by omega, by omega, ?_⟩
  have hpool : DrPool k n pool := DrPool.down ⟨hk1, hpb, hp0, hp20, hn4, hfit⟩
  rw [rng_map]
  refine wLc_any (P := fun d => ∃ v, d = vT v ∧ Dr k n v) _ [] (by rw [List.length_nil, List.length_range]; exact small5000 (by omega)) (fun i hi KK K' N kk => ?_) fun ys hyl2 hy => ?_
  · simp only [e_l_draw_set_1, wCall_of hv, wSs, wS, w, mk, bOf, wEs, wXs, wP, wI, wIfs, wAnd, wOr, rd, L3.startT, frz, frz1, List.foldl, List.map, List.length, endsOf, List.cons_append, List.nil_append, List.replicate, List.set, Co.w, Bo.w, Bf.w, wCmp, wGcd, wFdv, wNeg, wMul, wAdd, wSub, wMod, wPar, Ms.fl, wMs, setM, Tg.w, wTup_cons, wTup_nil, wLcE, wF, List.getElem?_cons_zero, List.getElem?_cons_succ, List.set_cons_zero, List.set_cons_succ, Nat.reduceSub, Nat.reduceAdd, List.length_cons, List.length_nil, List.map_cons, List.map_nil, List.foldl_nil, List.replicate_succ, List.replicate_zero, Nat.reduceEqDiff, if_false, if_true, T.bl.injEq, T.int.injEq, T.str.injEq, T.tup.injEq, T.lst.injEq, exists_eq_left', true_or, and_true, true_and, reduceCtorEq, reduceIte, decide_eq_true_eq, seqT, Option.some.injEq, wipeT, wRev, wSl, false_or, or_true, bneF, bneT, Int.toNat_natCast, okB_int, okB_non, okB_rT, okB_rTs, okB_rTt, ownL, wLt, wIn, inT_rTs, okE_int, okE_str, okE_rT, okE_rTs, okE_rTt, okE_nil, tyIs, wListF, wCatF, timesT, wZip]
    exact ⟨a, pool, k, n, by rw [show ((n + 1 : Nat) : Int) - 1 = (n : Int) by omega], hpool, hn, fun v hv => kk _ ⟨v, rfl, hv⟩⟩
  rw [List.length_range] at hyl2
  obtain ⟨vs, rfl, hvs⟩ := vals_any hy
  rw [List.nil_append]
  rw [List.length_map] at hyl2
  have hz := vszL_all fun v hv => (hvs v hv).sz
  have hl := asc_len_le (l := ps)
  have hd4 := pow4 (n := n) (by omega)
  have hm2 : vs.length ≤ 3 := by omega
  have hz3 : vs.length * dsz n ≤ 3 * dsz n := Nat.mul_le_mul_right _ hm2
  have hdn : depL vs ≤ n := depL_le fun v hv => (hvs v hv).dp
  refine ⟨asc ps, vs, k, rfl, asc_asc, hk1, fun r hr => hpb r (hps r (asc_mem.mp hr)), by omega, fun v hv => (hvs v hv).ok hpool (by omega), by omega, hD2, fun qs ms hqs hqp hql tl => ?_⟩
  have hin : ∀ u ∈ sortV ms, u ∈ ms := fun u hu => sortV_perm.mem_iff.mp hu
  refine q qs _ ⟨?_, ?_, ?_, ?_⟩
  · rw [WV, WVL_iff]
    exact ⟨hqs, fun u hu => (tl.all u (hin u hu)).1.wv⟩
  · rw [BV, BVL_iff]
    exact ⟨fun r hr => hpb r (hps r (asc_mem.mp (hqp r hr))), fun u hu => (tl.all u (hin u hu)).1.bv⟩
  · rw [dep]
    have := depL_le fun u hu => Nat.le_trans (tl.all u (hin u hu)).2.1 hdn
    omega
  · rw [vsz, vszL_perm sortV_perm, dsz]
    have := tl.sz
    omega
theorem pick_ite {c : Prop} [Decidable c] {a : Addr} {F : T → Prop} {E : Ex → Prop} (h : ∀ r : Int, 0 ≤ r → r < 7 → (r < 4 ∨ c) → F (.int r)) : if c then spPick [.src 1 a, .int 7] F E else spPick [.src 1 a, .int 4] F E := by
  by_cases hc : c
  · rw [if_pos hc]; exact ⟨a, 7, rfl, by decide, fun r h0 h1 => h r h0 (by omega) (.inr hc)⟩
  · rw [if_neg hc]; exact ⟨a, 4, rfl, by decide, fun r h0 h1 => h r h0 (by omega) (.inl (by omega))⟩
theorem ws_l_dval {G : Gt} {d D : Nat} (hD : d ≤ D) (hv : G "_law_draw_value" = some ⟨3, 0, sp_ldval d⟩) (h2 : G "_law_pick" = some ⟨2, 0, spPick⟩) (hs : G "_law_draw_set" = some ⟨4, 0, sp_ldset d⟩)
    (ds : List T) (Q : T → Prop) (E : Ex → Prop) (h : sp_ldval (d + 1) ds Q E) : wSs G b_l_draw_value (L3.startT ["_law_source", "_law_pool", "_law_deep", "_law_road", "_law_lap"] ds) (endsOf 0 Q E) := by
  obtain ⟨a, pool, k, n, rfl, hp, hn, q⟩ := h
  have hp' := hp
  obtain ⟨hk1, hpb, hp0, hp20, hn4, hfit⟩ := hp
  simp only [b_l_draw_value, wCall_of h2, wCall_of hs, wEq, wSs, wS, w, mk, bOf, wEs, wXs, wP, wI, wIfs, wAnd, wOr, rd, L3.startT, frz, frz1, List.foldl, List.map, List.length, endsOf, List.cons_append, List.nil_append, List.replicate, List.set, Co.w, Bo.w, Bf.w, wCmp, wGcd, wFdv, wNeg, wMul, wAdd, wSub, wMod, wPar, Ms.fl, wMs, setM, Tg.w, wTup_cons, wTup_nil, wLcE, wF, List.getElem?_cons_zero, List.getElem?_cons_succ, List.set_cons_zero, List.set_cons_succ, Nat.reduceSub, Nat.reduceAdd, List.length_cons, List.length_nil, List.map_cons, List.map_nil, List.foldl_nil, List.replicate_succ, List.replicate_zero, Nat.reduceEqDiff, if_false, if_true, T.bl.injEq, T.int.injEq, T.str.injEq, T.tup.injEq, T.lst.injEq, exists_eq_left', true_or, and_true, true_and, reduceCtorEq, reduceIte, decide_eq_true_eq, seqT, Option.some.injEq, wipeT, wRev, wSl, false_or, or_true, bneF, bneT, Int.toNat_natCast, okB_int, okB_non, okB_rT, okB_rTs, okB_rTt, ownL, wLt, wIn, inT_rTs, okE_int, okE_str, okE_rT, okE_rTs, okE_rTt, okE_nil, tyIs, wListF, wCatF, timesT, wZip]
  refine pick_ite fun r h0 h7 hc => ?_
  simp only [wSs, wS, w, mk, bOf, wEs, wXs, wP, wI, wIfs, wAnd, wOr, rd, L3.startT, frz, frz1, List.foldl, List.map, List.length, endsOf, List.cons_append, List.nil_append, List.replicate, List.set, Co.w, Bo.w, Bf.w, wCmp, wGcd, wFdv, wNeg, wMul, wAdd, wSub, wMod, wPar, Ms.fl, wMs, setM, Tg.w, wTup_cons, wTup_nil, wLcE, wF, List.getElem?_cons_zero, List.getElem?_cons_succ, List.set_cons_zero, List.set_cons_succ, Nat.reduceSub, Nat.reduceAdd, List.length_cons, List.length_nil, List.map_cons, List.map_nil, List.foldl_nil, List.replicate_succ, List.replicate_zero, Nat.reduceEqDiff, if_false, if_true, T.bl.injEq, T.int.injEq, T.str.injEq, T.tup.injEq, T.lst.injEq, exists_eq_left', true_or, and_true, true_and, reduceCtorEq, reduceIte, decide_eq_true_eq, seqT, Option.some.injEq, wipeT, wRev, wSl, false_or, or_true, bneF, bneT, Int.toNat_natCast, okB_int, okB_non, okB_rT, okB_rTs, okB_rTt, ownL, wLt, wIn, inT_rTs, okE_int, okE_str, okE_rT, okE_rTs, okE_rTt, okE_nil, tyIs, wListF, wCatF, timesT, wZip]
  rw [L3.eqT_int]
  by_cases c0 : r = 0
  · rw [if_pos (by simpa using c0)]
    refine ⟨by decide, a, 3, rfl, by decide, fun r1 h10 h11 => ?_⟩
    have e : r1 = 0 ∨ r1 = 1 ∨ r1 = 2 := by omega
    have dw : ∀ s : Str, PyData.strOk s = true → s.length ≤ 8 → lowW s = true → Dr k n (.word s) := fun s h1 h2 h3 => ⟨⟨h1, h2, h3⟩, by rw [BV]; trivial, Nat.zero_le _, by
      rw [vsz]; cases n with
      | zero => decide
      | succ n => rw [dsz]; omega⟩
    simp only [wIx, wSs, wS, w, mk, bOf, wEs, wXs, wP, wI, wIfs, wAnd, wOr, rd, L3.startT, frz, frz1, List.foldl, List.map, List.length, endsOf, List.cons_append, List.nil_append, List.replicate, List.set, Co.w, Bo.w, Bf.w, wCmp, wGcd, wFdv, wNeg, wMul, wAdd, wSub, wMod, wPar, Ms.fl, wMs, setM, Tg.w, wTup_cons, wTup_nil, wLcE, wF, List.getElem?_cons_zero, List.getElem?_cons_succ, List.set_cons_zero, List.set_cons_succ, Nat.reduceSub, Nat.reduceAdd, List.length_cons, List.length_nil, List.map_cons, List.map_nil, List.foldl_nil, List.replicate_succ, List.replicate_zero, Nat.reduceEqDiff, if_false, if_true, T.bl.injEq, T.int.injEq, T.str.injEq, T.tup.injEq, T.lst.injEq, exists_eq_left', true_or, and_true, true_and, reduceCtorEq, reduceIte, decide_eq_true_eq, seqT, Option.some.injEq, wipeT, wRev, wSl, false_or, or_true, bneF, bneT, Int.toNat_natCast, okB_int, okB_non, okB_rT, okB_rTs, okB_rTt, ownL, wLt, wIn, inT_rTs, okE_int, okE_str, okE_rT, okE_rTs, okE_rTt, okE_nil, tyIs, wListF, wCatF, timesT, wZip]
    rcases e with rfl | rfl | rfl
    · exact ⟨_, atC0, q _ (dw "a" (by decide +kernel) (by decide +kernel) (by decide +kernel))⟩
    · exact ⟨_, atC1, q _ (dw "b" (by decide +kernel) (by decide +kernel) (by decide +kernel))⟩
    · exact ⟨_, atC2, q _ (dw "row" (by decide +kernel) (by decide +kernel) (by decide +kernel))⟩
  rw [if_neg (by simpa using c0)]
  by_cases c4 : r < 4
  · rw [if_pos c4]
    refine ⟨a, _, rfl, by rw [List.length_map]; omega, fun r1 hr10 hr11 => ?_⟩
    obtain ⟨p, hp, e⟩ := at_pick hr10 (by rw [List.length_map] at hr11; exact_mod_cast hr11) hp0
    simp only [wIx, wSs, wS, w, mk, bOf, wEs, wXs, wP, wI, wIfs, wAnd, wOr, rd, L3.startT, frz, frz1, List.foldl, List.map, List.length, endsOf, List.cons_append, List.nil_append, List.replicate, List.set, Co.w, Bo.w, Bf.w, wCmp, wGcd, wFdv, wNeg, wMul, wAdd, wSub, wMod, wPar, Ms.fl, wMs, setM, Tg.w, wTup_cons, wTup_nil, wLcE, wF, List.getElem?_cons_zero, List.getElem?_cons_succ, List.set_cons_zero, List.set_cons_succ, Nat.reduceSub, Nat.reduceAdd, List.length_cons, List.length_nil, List.map_cons, List.map_nil, List.foldl_nil, List.replicate_succ, List.replicate_zero, Nat.reduceEqDiff, if_false, if_true, T.bl.injEq, T.int.injEq, T.str.injEq, T.tup.injEq, T.lst.injEq, exists_eq_left', true_or, and_true, true_and, reduceCtorEq, reduceIte, decide_eq_true_eq, seqT, Option.some.injEq, wipeT, wRev, wSl, false_or, or_true, bneF, bneT, Int.toNat_natCast, okB_int, okB_non, okB_rT, okB_rTs, okB_rTt, ownL, wLt, wIn, inT_rTs, okE_int, okE_str, okE_rT, okE_rTs, okE_rTt, okE_nil, tyIs, wListF, wCatF, timesT, wZip]
    exact ⟨_, e, q (.pt p) ⟨trivial, by rw [BV]; exact hpb p hp, Nat.zero_le _, by
      rw [vsz]; cases n with
      | zero => decide
      | succ n => rw [dsz]; omega⟩⟩
  rw [if_neg c4]
  have n0 : 0 < n := by omega
  obtain ⟨n, rfl⟩ : ∃ m, n = m + 1 := ⟨n - 1, by omega⟩
  have hpool := hp'.down
  by_cases c6 : r < 6
  · rw [if_pos c6]
    refine ⟨by decide, a, 3, rfl, by decide, fun r1 h10 h11 => ?_⟩
    simp only [wSs, wS, w, mk, bOf, wEs, wXs, wP, wI, wIfs, wAnd, wOr, rd, L3.startT, frz, frz1, List.foldl, List.map, List.length, endsOf, List.cons_append, List.nil_append, List.replicate, List.set, Co.w, Bo.w, Bf.w, wCmp, wGcd, wFdv, wNeg, wMul, wAdd, wSub, wMod, wPar, Ms.fl, wMs, setM, Tg.w, wTup_cons, wTup_nil, wLcE, wF, List.getElem?_cons_zero, List.getElem?_cons_succ, List.set_cons_zero, List.set_cons_succ, Nat.reduceSub, Nat.reduceAdd, List.length_cons, List.length_nil, List.map_cons, List.map_nil, List.foldl_nil, List.replicate_succ, List.replicate_zero, Nat.reduceEqDiff, if_false, if_true, T.bl.injEq, T.int.injEq, T.str.injEq, T.tup.injEq, T.lst.injEq, exists_eq_left', true_or, and_true, true_and, reduceCtorEq, reduceIte, decide_eq_true_eq, seqT, Option.some.injEq, wipeT, wRev, wSl, false_or, or_true, bneF, bneT, Int.toNat_natCast, okB_int, okB_non, okB_rT, okB_rTs, okB_rTt, ownL, wLt, wIn, inT_rTs, okE_int, okE_str, okE_rT, okE_rTs, okE_rTt, okE_nil, tyIs, wListF, wCatF, timesT, wZip]
    refine ⟨by omega, by omega, ?_⟩
    rw [rng_map]
    refine wLc_any (P := fun d => ∃ v, d = vT v ∧ Dr k n v) _ [] (by rw [List.length_nil, List.length_range]; exact small5000 (by omega)) (fun i hi KK K' N kk => ?_) fun ys hyl2 hy => ?_
    · simp only [e_l_draw_value_1, wCall_of hv, wSs, wS, w, mk, bOf, wEs, wXs, wP, wI, wIfs, wAnd, wOr, rd, L3.startT, frz, frz1, List.foldl, List.map, List.length, endsOf, List.cons_append, List.nil_append, List.replicate, List.set, Co.w, Bo.w, Bf.w, wCmp, wGcd, wFdv, wNeg, wMul, wAdd, wSub, wMod, wPar, Ms.fl, wMs, setM, Tg.w, wTup_cons, wTup_nil, wLcE, wF, List.getElem?_cons_zero, List.getElem?_cons_succ, List.set_cons_zero, List.set_cons_succ, Nat.reduceSub, Nat.reduceAdd, List.length_cons, List.length_nil, List.map_cons, List.map_nil, List.foldl_nil, List.replicate_succ, List.replicate_zero, Nat.reduceEqDiff, if_false, if_true, T.bl.injEq, T.int.injEq, T.str.injEq, T.tup.injEq, T.lst.injEq, exists_eq_left', true_or, and_true, true_and, reduceCtorEq, reduceIte, decide_eq_true_eq, seqT, Option.some.injEq, wipeT, wRev, wSl, false_or, or_true, bneF, bneT, Int.toNat_natCast, okB_int, okB_non, okB_rT, okB_rTs, okB_rTt, ownL, wLt, wIn, inT_rTs, okE_int, okE_str, okE_rT, okE_rTs, okE_rTt, okE_nil, tyIs, wListF, wCatF, timesT, wZip]
      exact ⟨a, pool, k, n, by rw [show ((n + 1 : Nat) : Int) - 1 = (n : Int) by omega], hpool, by omega, fun v hv => kk _ ⟨v, rfl, hv⟩⟩
    rw [List.length_range] at hyl2
    obtain ⟨vs, rfl, hvs⟩ := vals_any hy
    rw [List.nil_append]
    rw [List.length_map] at hyl2
    have hz := vszL_all fun v hv => (hvs v hv).sz
    have hm2 : vs.length ≤ 3 := by omega
    have hz3 : vs.length * dsz n ≤ 3 * dsz n := Nat.mul_le_mul_right _ hm2
    have hdn : depL vs ≤ n := depL_le fun v hv => (hvs v hv).dp
    refine ⟨Nat.le_of_lt (small5000 (by rw [List.length_map]; omega)), ?_⟩
    have := q (.row vs) ⟨by rw [WV, WVL_iff]; exact fun v hv => (hvs v hv).wv, by rw [BV, BVL_iff]; exact fun v hv => (hvs v hv).bv, by rw [dep]; omega, by rw [vsz, dsz]; omega⟩
    rw [vT_row] at this
    exact this
  · rw [if_neg c6]
    exact ⟨a, pool, k, n, 2, rfl, hp', by omega, by decide, fun qs ms h => q _ h⟩
end LawP

/-! LPt: terms of the program's small defs (printed by gen.py). -/
namespace LawP
open PySem PySem.Spec PyProof.Rows L2 L3
def b_is_before : Ss := (.cons (.ret [] (.cmp .lt (.bin .mul (.ix (.var 0) (.int 0)) (.ix (.var 1) (.int 1))) (.bin .mul (.ix (.var 1) (.int 0)) (.ix (.var 0) (.int 1))))) .nil)
def e_put_in_1 : E := (.var 3)
def es_put_in_2 : Es := (.cons (.call "is_before" (.cons (.var 3) (.cons (.var 1) .nil))) .nil)
def b_put_in : Ss := (.cons (.ite [] (.cmp .in_ (.var 1) (.var 0)) (.cons (.ret [] (.var 0)) .nil) .nil) (.cons (.set [] 2 (.bf .len (.cons (.lc e_put_in_1 (.name 3) (.seq (.var 0)) es_put_in_2 [("one", 3)]) .nil))) (.cons (.ret [] (.tupS (.star (.sl (.var 0) .no (.at (.var 2))) (.one (.var 1) (.star (.sl (.var 0) (.at (.var 2)) .no) .nil))))) .nil)))
def b_put_together_1 : Ss := (.cons (.set [] 1 (.call "put_in" (.cons (.var 1) (.cons (.var 3) .nil)))) .nil)
def b_put_together_2 : Ss := (.cons (.for [] (.name 3) (.seq (.var 2)) b_put_together_1) .nil)
def b_put_together : Ss := (.cons (.set [] 1 (.tup .nil)) (.cons (.for [] (.name 2) (.seq (.var 0)) b_put_together_2) (.cons (.ret [] (.var 1)) .nil)))
def e_support_1 : E := (.call "support" (.cons (.var 2) .nil))
def b_support : Ss := (.cons (.ite [] (.isi (.var 0) .str) (.cons (.ret [] (.tup .nil)) .nil) .nil) (.cons (.ite [] (.cmp .eq (.ix (.var 0) (.int 0)) (.str "row")) (.cons (.set [] 1 (.lc e_support_1 (.name 2) (.seq (.sl (.var 0) (.at (.int 1)) .no)) .nil [("part", 2)])) (.cons (.ret [] (.callS "put_together" (.var 1))) .nil)) .nil) (.cons (.ite [] (.cmp .eq (.ix (.var 0) (.int 0)) (.str "set")) (.cons (.ret [] (.ix (.var 0) (.int 1))) .nil) .nil) (.cons (.ret [] (.tup (.cons (.var 0) .nil))) .nil))))
def e_gap_of_1 : E := (.var 2)
def es_gap_of_2 : Es := (.cons (.call "is_before" (.cons (.var 2) (.cons (.var 1) .nil))) .nil)
def b_gap_of : Ss := (.cons (.ite [] (.cmp .in_ (.var 1) (.var 0)) (.cons (.ret [] .non) .nil) .nil) (.cons (.ret [] (.bf .len (.cons (.lc e_gap_of_1 (.name 2) (.seq (.var 0)) es_gap_of_2 [("one", 2)]) .nil))) .nil))
def b_own_points_1 : Ss := (.cons (.set [] 3 (.call "gap_of" (.cons (.var 1) (.cons (.var 4) .nil)))) (.cons (.ite [] (.cmp .isnot (.var 3) .non) (.cons (.app2 2 (.var 3) (.var 4)) .nil) .nil) .nil))
def b_own_points : Ss := (.cons (.setLL [] 2 (.name 3) (.rng1 (.bin .add (.bf .len (.cons (.var 1) .nil)) (.int 1))) [("gap", 3)]) (.cons (.for [] (.name 4) (.seq (.call "support" (.cons (.var 0) .nil))) b_own_points_1) (.cons (.retOwn 2) .nil)))
def e_shape_1 : E := (.bf .len (.cons (.var 2) .nil))
def b_shape : Ss := (.cons (.ret [] (.bf .tuple (.cons (.lc e_shape_1 (.name 2) (.seq (.call "own_points" (.cons (.var 0) (.cons (.var 1) .nil)))) .nil [("some", 2)]) .nil))) .nil)
end LawP

set_option exponentiation.threshold 4000
/-! LPa: words of the program's small defs. -/
namespace LawP
open PySem PySem.Spec PyProof.Rows L2 L3

theorem ws_before {G : Gt} (ds : List T) (Q : T → Prop) (E : Ex → Prop) (h : sp_less ds Q E) : wSs G b_is_before (L3.startT ["one", "other"] ds) (endsOf 0 Q E) := ws_l_less (G := G) ds Q E h
def sp_put_in : VSp := fun ds Q _ => ∃ (rs : List Rat) (x : Rat), ds = [.tup (rs.map rT), rT x] ∧ (∀ r ∈ rs, bd 1000 r) ∧ bd 1000 x ∧ rs.length ≤ 5000 ∧ Asc rs ∧ Q (.tup ((ins rs x).map rT))
theorem take_filt {x : Rat} {xs : List Rat} (h : Asc xs) : xs.take (xs.filter fun r => decide (r < x)).length = xs.filter fun r => decide (r < x) := by
  induction xs with
  | nil => rfl
  | cons a xs ih =>
    obtain ⟨h1, h2⟩ := List.pairwise_cons.mp h
    by_cases ha : a < x
    · rw [List.filter_cons_of_pos (by simpa using ha), List.length_cons, List.take_succ_cons, ih h2]
    · have hn : ∀ r ∈ xs, ¬ r < x := fun r hr hx => ha (Std.lt_trans (h1 r hr) hx)
      rw [List.filter_cons_of_neg (by simpa using ha), List.filter_eq_nil_iff.mpr (by simpa using hn)]
      rfl
theorem cut_upto {xs : List T} {n : Nat} : cutT xs none (some (n : Int)) = xs.take n := by
  have e1 : HT.sIx xs.length 0 none = 0 := rfl
  have e2 : HT.sIx xs.length xs.length (some (n : Int)) = min n xs.length := HT.sIx_nat _ _ _
  unfold cutT
  rw [e1, e2, List.drop_zero, Nat.sub_zero]
  by_cases h : n ≤ xs.length
  · rw [Nat.min_eq_left h]
  · rw [Nat.min_eq_right (by omega), List.take_of_length_le (Nat.le_refl _), List.take_of_length_le (by omega)]
theorem inT_rTt {r : Rat} {rs : List Rat} : inT (rT r) (rs.map rT) = decide (r ∈ rs) := inT_rTs
theorem ws_put_in {G : Gt} (h1 : G "is_before" = some ⟨2, 0, sp_less⟩) (ds : List T) (Q : T → Prop) (E : Ex → Prop) (h : sp_put_in ds Q E) : wSs G b_put_in (L3.startT ["points", "point", "below", "one"] ds) (endsOf 0 Q E) := by
  obtain ⟨rs, x, rfl, hb, hx, hl, hs, q⟩ := h
  simp only [b_put_in, wSs, wS, w, mk, bOf, wEs, wXs, wP, wI, wIfs, wAnd, wOr, rd, L3.startT, frz, frz1, List.foldl, List.map, List.length, endsOf, List.cons_append, List.nil_append, List.replicate, List.set, Co.w, Bo.w, Bf.w, wCmp, wGcd, wFdv, wNeg, wMul, wAdd, wSub, wMod, wPar, Ms.fl, wMs, setM, Tg.w, wTup_cons, wTup_nil, wLcE, wF, List.getElem?_cons_zero, List.getElem?_cons_succ, List.set_cons_zero, List.set_cons_succ, Nat.reduceSub, Nat.reduceAdd, List.length_cons, List.length_nil, List.map_cons, List.map_nil, List.foldl_nil, List.replicate_succ, List.replicate_zero, Nat.reduceEqDiff, if_false, if_true, T.bl.injEq, T.int.injEq, T.str.injEq, T.tup.injEq, T.lst.injEq, exists_eq_left', true_or, and_true, true_and, reduceCtorEq, reduceIte, decide_eq_true_eq, seqT, Option.some.injEq, wipeT, wRev, wSl, false_or, or_true, bneF, bneT, Int.toNat_natCast, okB_int, okB_non, okB_rT, okB_rTs, okB_rTt, ownL, wLt, wIn, inT_rTs, okE_int, okE_str, okE_rT, okE_rTs, okE_rTt, okE_nil, tyIs, wListF, wCatF, timesT, wZip]
  by_cases hm : x ∈ rs
  · have e : ins rs x = rs := if_pos hm
    rw [e] at q
    simpa [hm] using q
  · have e : ins rs x = rs.filter (fun z => decide (z < x)) ++ [x] ++ rs.drop (rs.filter fun z => decide (z < x)).length := if_neg hm
    simp only [hm, decide_false, Bool.false_eq_true, if_false]
    refine wLc_over (f0 := rT) (p := fun z => decide (z < x)) (F := rT) rs [] (by rw [List.length_nil, Nat.zero_add]; exact small5000 (by omega)) (fun z hz KK K' N k1 k2 => ?_) ?_
    · simp only [e_put_in_1, es_put_in_2, wCall_of h1, wSs, wS, w, mk, bOf, wEs, wXs, wP, wI, wIfs, wAnd, wOr, rd, L3.startT, frz, frz1, List.foldl, List.map, List.length, endsOf, List.cons_append, List.nil_append, List.replicate, List.set, Co.w, Bo.w, Bf.w, wCmp, wGcd, wFdv, wNeg, wMul, wAdd, wSub, wMod, wPar, Ms.fl, wMs, setM, Tg.w, wTup_cons, wTup_nil, wLcE, wF, List.getElem?_cons_zero, List.getElem?_cons_succ, List.set_cons_zero, List.set_cons_succ, Nat.reduceSub, Nat.reduceAdd, List.length_cons, List.length_nil, List.map_cons, List.map_nil, List.foldl_nil, List.replicate_succ, List.replicate_zero, Nat.reduceEqDiff, if_false, if_true, T.bl.injEq, T.int.injEq, T.str.injEq, T.tup.injEq, T.lst.injEq, exists_eq_left', true_or, and_true, true_and, reduceCtorEq, reduceIte, decide_eq_true_eq, seqT, Option.some.injEq, wipeT, wRev, wSl, false_or, or_true, bneF, bneT, Int.toNat_natCast, okB_int, okB_non, okB_rT, okB_rTs, okB_rTt, ownL, wLt, wIn, inT_rTs, okE_int, okE_str, okE_rT, okE_rTs, okE_rTt, okE_nil, tyIs, wListF, wCatF, timesT, wZip]
      refine ⟨z, x, rfl, hb z hz, hx, ?_⟩
      refine ⟨_, rfl, ?_⟩
      by_cases hzr : z < x
      · simp only [hzr, decide_true, if_true]; exact k1 (by simpa using hzr)
      · simp only [hzr, decide_false, Bool.false_eq_true, if_false]; exact k2 (by simpa using hzr)
    · have hf := List.length_filter_le (fun z => decide (z < x)) rs
      rw [List.nil_append, List.length_map, cut_from, cut_upto, List.append_nil]
      rw [show (rs.map rT).take (rs.filter fun z => decide (z < x)).length ++ rT x :: (rs.map rT).drop (rs.filter fun z => decide (z < x)).length = (ins rs x).map rT by
        rw [e, List.map_append, List.map_append, List.map_drop, ← take_filt hs, List.map_take, List.append_assoc]
        rw [take_filt hs]
        rfl]
      refine ⟨?_, q⟩
      have := ins_len_le (xs := rs) (x := x)
      rw [List.length_map]
      exact Nat.le_of_lt (small5000 (by omega))
def sp_put_together : VSp := fun ds Q _ => ∃ rss : List (List Rat), ds = [.tup (rss.map fun rs => .tup (rs.map rT))] ∧ (∀ rs ∈ rss, ∀ r ∈ rs, bd 1000 r) ∧ rss.flatten.length ≤ 4000 ∧ Q (.tup ((asc rss.flatten).map rT))
theorem flat_take {α : Type} {xss : List (List α)} {i : Nat} {xs : List α} (h : xss[i]? = some xs) : (xss.take (i + 1)).flatten = (xss.take i).flatten ++ xs := by
  rw [List.take_add_one, h, List.flatten_append]
  simp
theorem ws_put_together {G : Gt} (h1 : G "put_in" = some ⟨2, 0, sp_put_in⟩) (ds : List T) (Q : T → Prop) (E : Ex → Prop) (h : sp_put_together ds Q E) : wSs G b_put_together (L3.startT ["rows", "found", "row", "point"] ds) (endsOf 0 Q E) := by
  obtain ⟨rss, rfl, hb, hl, q⟩ := h
  simp only [b_put_together, wSs, wS, w, mk, bOf, wEs, wXs, wP, wI, wIfs, wAnd, wOr, rd, L3.startT, frz, frz1, List.foldl, List.map, List.length, endsOf, List.cons_append, List.nil_append, List.replicate, List.set, Co.w, Bo.w, Bf.w, wCmp, wGcd, wFdv, wNeg, wMul, wAdd, wSub, wMod, wPar, Ms.fl, wMs, setM, Tg.w, wTup_cons, wTup_nil, wLcE, wF, List.getElem?_cons_zero, List.getElem?_cons_succ, List.set_cons_zero, List.set_cons_succ, Nat.reduceSub, Nat.reduceAdd, List.length_cons, List.length_nil, List.map_cons, List.map_nil, List.foldl_nil, List.replicate_succ, List.replicate_zero, Nat.reduceEqDiff, if_false, if_true, T.bl.injEq, T.int.injEq, T.str.injEq, T.tup.injEq, T.lst.injEq, exists_eq_left', true_or, and_true, true_and, reduceCtorEq, reduceIte, decide_eq_true_eq, seqT, Option.some.injEq, wipeT, wRev, wSl, false_or, or_true, bneF, bneT, Int.toNat_natCast, okB_int, okB_non, okB_rT, okB_rTs, okB_rTt, ownL, wLt, wIn, inT_rTs, okE_int, okE_str, okE_rT, okE_rTs, okE_rTt, okE_nil, tyIs, wListF, wCatF, timesT, wZip]
  refine ⟨Nat.zero_le _, ?_⟩
  refine wFor_inv (fun i ρ => ∃ x2 x3, ρ = [.sh (.tup (rss.map fun rs => .tup (rs.map rT))), .sh (.tup ((asc (rss.take i).flatten).map rT)), x2, x3]) ⟨_, _, rfl⟩ ?_ ?_
  · rintro i d ρ K hd ⟨x2, x3, rfl⟩ hK
    rw [List.getElem?_map] at hd
    obtain ⟨rs, hr, rfl⟩ := Option.map_eq_some_iff.mp hd
    have hrm := List.mem_of_getElem? hr
    have hK' : ∀ x2 x3, K [.sh (.tup (rss.map fun rs => .tup (rs.map rT))), .sh (.tup ((rs.foldl ins (asc (rss.take i).flatten)).map rT)), x2, x3] := fun x2 x3 => hK _ ⟨x2, x3, by rw [flat_take hr]; unfold asc; rw [List.foldl_append]⟩
    have hall : ∀ j, ((rss.take i).flatten ++ rs.take j).length ≤ 4000 := fun j => by
      have e1 : ((rss.take (i + 1)).flatten).length ≤ rss.flatten.length := by
        conv => rhs; rw [← List.take_append_drop (i + 1) rss]
        rw [List.flatten_append, List.length_append]; omega
      rw [flat_take hr, List.length_append] at e1
      rw [List.length_append, List.length_take]
      omega
    have hbb : ∀ j, ∀ r ∈ (rss.take i).flatten ++ rs.take j, bd 1000 r := fun j r hr => by
      rcases List.mem_append.mp hr with hr | hr
      · obtain ⟨xs, hxs, hr⟩ := List.mem_flatten.mp hr
        exact hb xs (List.mem_of_mem_take hxs) r hr
      · exact hb rs hrm r (List.mem_of_mem_take hr)
    simp only [b_put_together_2, wSs, wS, w, mk, bOf, wEs, wXs, wP, wI, wIfs, wAnd, wOr, rd, L3.startT, frz, frz1, List.foldl, List.map, List.length, endsOf, List.cons_append, List.nil_append, List.replicate, List.set, Co.w, Bo.w, Bf.w, wCmp, wGcd, wFdv, wNeg, wMul, wAdd, wSub, wMod, wPar, Ms.fl, wMs, setM, Tg.w, wTup_cons, wTup_nil, wLcE, wF, List.getElem?_cons_zero, List.getElem?_cons_succ, List.set_cons_zero, List.set_cons_succ, Nat.reduceSub, Nat.reduceAdd, List.length_cons, List.length_nil, List.map_cons, List.map_nil, List.foldl_nil, List.replicate_succ, List.replicate_zero, Nat.reduceEqDiff, if_false, if_true, T.bl.injEq, T.int.injEq, T.str.injEq, T.tup.injEq, T.lst.injEq, exists_eq_left', true_or, and_true, true_and, reduceCtorEq, reduceIte, decide_eq_true_eq, seqT, Option.some.injEq, wipeT, wRev, wSl, false_or, or_true, bneF, bneT, Int.toNat_natCast, okB_int, okB_non, okB_rT, okB_rTs, okB_rTt, ownL, wLt, wIn, inT_rTs, okE_int, okE_str, okE_rT, okE_rTs, okE_rTt, okE_nil, tyIs, wListF, wCatF, timesT, wZip]
    refine wFor_inv (fun j ρ => ∃ x3, ρ = [.sh (.tup (rss.map fun rs => .tup (rs.map rT))), .sh (.tup ((asc ((rss.take i).flatten ++ rs.take j)).map rT)), .sh (.tup (rs.map rT)), x3]) ⟨_, by rw [List.take_zero, List.append_nil]⟩ ?_ ?_
    · rintro j d ρ K2 hd ⟨x3, rfl⟩ hK2
      rw [List.getElem?_map] at hd
      obtain ⟨r, hr2, rfl⟩ := Option.map_eq_some_iff.mp hd
      simp only [b_put_together_1, wCall_of h1, wSs, wS, w, mk, bOf, wEs, wXs, wP, wI, wIfs, wAnd, wOr, rd, L3.startT, frz, frz1, List.foldl, List.map, List.length, endsOf, List.cons_append, List.nil_append, List.replicate, List.set, Co.w, Bo.w, Bf.w, wCmp, wGcd, wFdv, wNeg, wMul, wAdd, wSub, wMod, wPar, Ms.fl, wMs, setM, Tg.w, wTup_cons, wTup_nil, wLcE, wF, List.getElem?_cons_zero, List.getElem?_cons_succ, List.set_cons_zero, List.set_cons_succ, Nat.reduceSub, Nat.reduceAdd, List.length_cons, List.length_nil, List.map_cons, List.map_nil, List.foldl_nil, List.replicate_succ, List.replicate_zero, Nat.reduceEqDiff, if_false, if_true, T.bl.injEq, T.int.injEq, T.str.injEq, T.tup.injEq, T.lst.injEq, exists_eq_left', true_or, and_true, true_and, reduceCtorEq, reduceIte, decide_eq_true_eq, seqT, Option.some.injEq, wipeT, wRev, wSl, false_or, or_true, bneF, bneT, Int.toNat_natCast, okB_int, okB_non, okB_rT, okB_rTs, okB_rTt, ownL, wLt, wIn, inT_rTs, okE_int, okE_str, okE_rT, okE_rTs, okE_rTt, okE_nil, tyIs, wListF, wCatF, timesT, wZip]
      have hl2 := asc_len_le (l := (rss.take i).flatten ++ rs.take j)
      have := hall j
      refine ⟨_, r, rfl, fun z hz => hbb j z (asc_mem.mp hz), hb rs hrm r (List.mem_of_getElem? hr2), by omega, asc_asc, ?_⟩
      refine hK2 _ ⟨.sh (rT r), ?_⟩
      have ht : rs.take (j + 1) = rs.take j ++ [r] := by rw [List.take_add_one, hr2]; rfl
      rw [ht, ← List.append_assoc]
      unfold asc
      rw [List.foldl_append (l' := [r])]
      rfl
    · rintro ρ ⟨x3, rfl⟩
      rw [List.length_map, List.take_length]
      have := hK' (.sh (.tup (rs.map rT))) x3
      unfold asc at this ⊢
      rw [← List.foldl_append] at this
      exact this
  · rintro ρ ⟨x2, x3, rfl⟩
    simp only [wSs, wS, w, mk, bOf, wEs, wXs, wP, wI, wIfs, wAnd, wOr, rd, L3.startT, frz, frz1, List.foldl, List.map, List.length, endsOf, List.cons_append, List.nil_append, List.replicate, List.set, Co.w, Bo.w, Bf.w, wCmp, wGcd, wFdv, wNeg, wMul, wAdd, wSub, wMod, wPar, Ms.fl, wMs, setM, Tg.w, wTup_cons, wTup_nil, wLcE, wF, List.getElem?_cons_zero, List.getElem?_cons_succ, List.set_cons_zero, List.set_cons_succ, Nat.reduceSub, Nat.reduceAdd, List.length_cons, List.length_nil, List.map_cons, List.map_nil, List.foldl_nil, List.replicate_succ, List.replicate_zero, Nat.reduceEqDiff, if_false, if_true, T.bl.injEq, T.int.injEq, T.str.injEq, T.tup.injEq, T.lst.injEq, exists_eq_left', true_or, and_true, true_and, reduceCtorEq, reduceIte, decide_eq_true_eq, seqT, Option.some.injEq, wipeT, wRev, wSl, false_or, or_true, bneF, bneT, Int.toNat_natCast, okB_int, okB_non, okB_rT, okB_rTs, okB_rTt, ownL, wLt, wIn, inT_rTs, okE_int, okE_str, okE_rT, okE_rTs, okE_rTt, okE_nil, tyIs, wListF, wCatF, timesT, wZip]
    rw [List.length_map, List.take_length]
    exact q
def sp_supp (d : Nat) : VSp := fun ds Q _ => ∃ v : Val, ds = [vT v] ∧ BV 1000 v ∧ WV v ∧ vsz v ≤ 1000 ∧ dep v < d ∧ Q (.tup ((supp v).map rT))
theorem ws_supp {G : Gt} {d : Nat} (hr : G "support" = some ⟨1, 0, sp_supp d⟩) (ha : G "put_together" = some ⟨100, 0, sp_put_together⟩) (ds : List T) (Q : T → Prop) (E : Ex → Prop) (h : sp_supp (d + 1) ds Q E) : wSs G b_support (L3.startT ["value", "found", "part"] ds) (endsOf 0 Q E) := by
  obtain ⟨v, rfl, hb, hw, hz, hd, q⟩ := h
  cases v with
  | word s =>
    rw [supp] at q
    simp only [b_support, vT, wSs, wS, w, mk, bOf, wEs, wXs, wP, wI, wIfs, wAnd, wOr, rd, L3.startT, frz, frz1, List.foldl, List.map, List.length, endsOf, List.cons_append, List.nil_append, List.replicate, List.set, Co.w, Bo.w, Bf.w, wCmp, wGcd, wFdv, wNeg, wMul, wAdd, wSub, wMod, wPar, Ms.fl, wMs, setM, Tg.w, wTup_cons, wTup_nil, wLcE, wF, List.getElem?_cons_zero, List.getElem?_cons_succ, List.set_cons_zero, List.set_cons_succ, Nat.reduceSub, Nat.reduceAdd, List.length_cons, List.length_nil, List.map_cons, List.map_nil, List.foldl_nil, List.replicate_succ, List.replicate_zero, Nat.reduceEqDiff, if_false, if_true, T.bl.injEq, T.int.injEq, T.str.injEq, T.tup.injEq, T.lst.injEq, exists_eq_left', true_or, and_true, true_and, reduceCtorEq, reduceIte, decide_eq_true_eq, seqT, Option.some.injEq, wipeT, wRev, wSl, false_or, or_true, bneF, bneT, Int.toNat_natCast, okB_int, okB_non, okB_rT, okB_rTs, okB_rTt, ownL, wLt, wIn, inT_rTs, okE_int, okE_str, okE_rT, okE_rTs, okE_rTt, okE_nil, tyIs, wListF, wCatF, timesT, wZip]
    exact ⟨Nat.zero_le _, q⟩
  | pt r =>
    rw [supp] at q
    simp only [b_support, vT, rT, wIx, atC0, wEq, eq_is, okE_is ok_set, okE_is ok_row, Bool.false_eq_true, wSs, wS, w, mk, bOf, wEs, wXs, wP, wI, wIfs, wAnd, wOr, rd, L3.startT, frz, frz1, List.foldl, List.map, List.length, endsOf, List.cons_append, List.nil_append, List.replicate, List.set, Co.w, Bo.w, Bf.w, wCmp, wGcd, wFdv, wNeg, wMul, wAdd, wSub, wMod, wPar, Ms.fl, wMs, setM, Tg.w, wTup_cons, wTup_nil, wLcE, wF, List.getElem?_cons_zero, List.getElem?_cons_succ, List.set_cons_zero, List.set_cons_succ, Nat.reduceSub, Nat.reduceAdd, List.length_cons, List.length_nil, List.map_cons, List.map_nil, List.foldl_nil, List.replicate_succ, List.replicate_zero, Nat.reduceEqDiff, if_false, if_true, T.bl.injEq, T.int.injEq, T.str.injEq, T.tup.injEq, T.lst.injEq, exists_eq_left', true_or, and_true, true_and, reduceCtorEq, reduceIte, decide_eq_true_eq, seqT, Option.some.injEq, wipeT, wRev, wSl, false_or, or_true, bneF, bneT, Int.toNat_natCast, okB_int, okB_non, okB_rT, okB_rTs, okB_rTt, ownL, wLt, wIn, inT_rTs, okE_int, okE_str, okE_rT, okE_rTs, okE_rTt, okE_nil, tyIs, wListF, wCatF, timesT, wZip]
    exact ⟨by decide, q⟩
  | set ps ms =>
    rw [supp] at q
    simp only [b_support, vT_set, wIx, atC0, atC1, wEq, eq_ss, eq_sr, Bool.false_eq_true, wSs, wS, w, mk, bOf, wEs, wXs, wP, wI, wIfs, wAnd, wOr, rd, L3.startT, frz, frz1, List.foldl, List.map, List.length, endsOf, List.cons_append, List.nil_append, List.replicate, List.set, Co.w, Bo.w, Bf.w, wCmp, wGcd, wFdv, wNeg, wMul, wAdd, wSub, wMod, wPar, Ms.fl, wMs, setM, Tg.w, wTup_cons, wTup_nil, wLcE, wF, List.getElem?_cons_zero, List.getElem?_cons_succ, List.set_cons_zero, List.set_cons_succ, Nat.reduceSub, Nat.reduceAdd, List.length_cons, List.length_nil, List.map_cons, List.map_nil, List.foldl_nil, List.replicate_succ, List.replicate_zero, Nat.reduceEqDiff, if_false, if_true, T.bl.injEq, T.int.injEq, T.str.injEq, T.tup.injEq, T.lst.injEq, exists_eq_left', true_or, and_true, true_and, reduceCtorEq, reduceIte, decide_eq_true_eq, seqT, Option.some.injEq, wipeT, wRev, wSl, false_or, or_true, bneF, bneT, Int.toNat_natCast, okB_int, okB_non, okB_rT, okB_rTs, okB_rTt, ownL, wLt, wIn, inT_rTs, okE_int, okE_str, okE_rT, okE_rTs, okE_rTt, okE_nil, tyIs, wListF, wCatF, timesT, wZip]
    exact q
  | row vs =>
    rw [BV, BVL_iff] at hb
    rw [WV, WVL_iff] at hw
    rw [dep] at hd
    rw [vsz] at hz
    rw [supp] at q
    have hlen := len_vszL (vs := vs)
    simp only [b_support, vT_row, wIx, atC0, wEq, eq_rs, eq_rr, Bool.false_eq_true, cut1, wSs, wS, w, mk, bOf, wEs, wXs, wP, wI, wIfs, wAnd, wOr, rd, L3.startT, frz, frz1, List.foldl, List.map, List.length, endsOf, List.cons_append, List.nil_append, List.replicate, List.set, Co.w, Bo.w, Bf.w, wCmp, wGcd, wFdv, wNeg, wMul, wAdd, wSub, wMod, wPar, Ms.fl, wMs, setM, Tg.w, wTup_cons, wTup_nil, wLcE, wF, List.getElem?_cons_zero, List.getElem?_cons_succ, List.set_cons_zero, List.set_cons_succ, Nat.reduceSub, Nat.reduceAdd, List.length_cons, List.length_nil, List.map_cons, List.map_nil, List.foldl_nil, List.replicate_succ, List.replicate_zero, Nat.reduceEqDiff, if_false, if_true, T.bl.injEq, T.int.injEq, T.str.injEq, T.tup.injEq, T.lst.injEq, exists_eq_left', true_or, and_true, true_and, reduceCtorEq, reduceIte, decide_eq_true_eq, seqT, Option.some.injEq, wipeT, wRev, wSl, false_or, or_true, bneF, bneT, Int.toNat_natCast, okB_int, okB_non, okB_rT, okB_rTs, okB_rTt, ownL, wLt, wIn, inT_rTs, okE_int, okE_str, okE_rT, okE_rTs, okE_rTt, okE_nil, tyIs, wListF, wCatF, timesT, wZip]
    refine wLc_each (F := fun v => .tup ((supp v).map rT)) vs (small5000 (by omega)) (fun v hv K K' N kk => ?_) ?_
    · have h1 := dep_mem hv
      have h2 := vsz_mem hv
      simp only [e_support_1, wCall_of hr, wSs, wS, w, mk, bOf, wEs, wXs, wP, wI, wIfs, wAnd, wOr, rd, L3.startT, frz, frz1, List.foldl, List.map, List.length, endsOf, List.cons_append, List.nil_append, List.replicate, List.set, Co.w, Bo.w, Bf.w, wCmp, wGcd, wFdv, wNeg, wMul, wAdd, wSub, wMod, wPar, Ms.fl, wMs, setM, Tg.w, wTup_cons, wTup_nil, wLcE, wF, List.getElem?_cons_zero, List.getElem?_cons_succ, List.set_cons_zero, List.set_cons_succ, Nat.reduceSub, Nat.reduceAdd, List.length_cons, List.length_nil, List.map_cons, List.map_nil, List.foldl_nil, List.replicate_succ, List.replicate_zero, Nat.reduceEqDiff, if_false, if_true, T.bl.injEq, T.int.injEq, T.str.injEq, T.tup.injEq, T.lst.injEq, exists_eq_left', true_or, and_true, true_and, reduceCtorEq, reduceIte, decide_eq_true_eq, seqT, Option.some.injEq, wipeT, wRev, wSl, false_or, or_true, bneF, bneT, Int.toNat_natCast, okB_int, okB_non, okB_rT, okB_rTs, okB_rTt, ownL, wLt, wIn, inT_rTs, okE_int, okE_str, okE_rT, okE_rTs, okE_rTt, okE_nil, tyIs, wListF, wCatF, timesT, wZip]
      exact ⟨v, rfl, hb v hv, hw v hv, by omega, by omega, kk⟩
    · simp only [wCallS_of ha, wSs, wS, w, mk, bOf, wEs, wXs, wP, wI, wIfs, wAnd, wOr, rd, L3.startT, frz, frz1, List.foldl, List.map, List.length, endsOf, List.cons_append, List.nil_append, List.replicate, List.set, Co.w, Bo.w, Bf.w, wCmp, wGcd, wFdv, wNeg, wMul, wAdd, wSub, wMod, wPar, Ms.fl, wMs, setM, Tg.w, wTup_cons, wTup_nil, wLcE, wF, List.getElem?_cons_zero, List.getElem?_cons_succ, List.set_cons_zero, List.set_cons_succ, Nat.reduceSub, Nat.reduceAdd, List.length_cons, List.length_nil, List.map_cons, List.map_nil, List.foldl_nil, List.replicate_succ, List.replicate_zero, Nat.reduceEqDiff, if_false, if_true, T.bl.injEq, T.int.injEq, T.str.injEq, T.tup.injEq, T.lst.injEq, exists_eq_left', true_or, and_true, true_and, reduceCtorEq, reduceIte, decide_eq_true_eq, seqT, Option.some.injEq, wipeT, wRev, wSl, false_or, or_true, bneF, bneT, Int.toNat_natCast, okB_int, okB_non, okB_rT, okB_rTs, okB_rTt, ownL, wLt, wIn, inT_rTs, okE_int, okE_str, okE_rT, okE_rTs, okE_rTt, okE_nil, tyIs, wListF, wCatF, timesT, wZip]
      refine ⟨_, .inl rfl, Nat.le_of_lt (small5000 (by rw [List.length_map]; omega)), vs.map supp, by rw [List.map_map]; rfl, fun rs hrs r hr => ?_, ?_, ?_⟩
      · obtain ⟨v, hv, rfl⟩ := List.mem_map.mp hrs
        exact (hb v hv).supp r hr
      · have := suppL_len (vs := vs) fun v _ => supp_len v
        rw [suppL_map, List.flatMap_def] at this
        omega
      · rw [suppL_map, List.flatMap_def] at q
        exact q
/-! ### gaps -/
def sp_gap_of : VSp := fun ds Q _ => ∃ (ps : List Rat) (x : Rat), ds = [.tup (ps.map rT), rT x] ∧ (∀ r ∈ ps, bd 1000 r) ∧ bd 1000 x ∧ ps.length ≤ 5000 ∧ (x ∈ ps → Q .non) ∧ (x ∉ ps → Q (.int ((gapn ps x : Nat) : Int)))
theorem ws_gap_of {G : Gt} (h1 : G "is_before" = some ⟨2, 0, sp_less⟩) (ds : List T) (Q : T → Prop) (E : Ex → Prop) (h : sp_gap_of ds Q E) : wSs G b_gap_of (L3.startT ["points", "point", "one"] ds) (endsOf 0 Q E) := by
  obtain ⟨ps, x, rfl, hb, hx, hl, q1, q2⟩ := h
  simp only [b_gap_of, wSs, wS, w, mk, bOf, wEs, wXs, wP, wI, wIfs, wAnd, wOr, rd, L3.startT, frz, frz1, List.foldl, List.map, List.length, endsOf, List.cons_append, List.nil_append, List.replicate, List.set, Co.w, Bo.w, Bf.w, wCmp, wGcd, wFdv, wNeg, wMul, wAdd, wSub, wMod, wPar, Ms.fl, wMs, setM, Tg.w, wTup_cons, wTup_nil, wLcE, wF, List.getElem?_cons_zero, List.getElem?_cons_succ, List.set_cons_zero, List.set_cons_succ, Nat.reduceSub, Nat.reduceAdd, List.length_cons, List.length_nil, List.map_cons, List.map_nil, List.foldl_nil, List.replicate_succ, List.replicate_zero, Nat.reduceEqDiff, if_false, if_true, T.bl.injEq, T.int.injEq, T.str.injEq, T.tup.injEq, T.lst.injEq, exists_eq_left', true_or, and_true, true_and, reduceCtorEq, reduceIte, decide_eq_true_eq, seqT, Option.some.injEq, wipeT, wRev, wSl, false_or, or_true, bneF, bneT, Int.toNat_natCast, okB_int, okB_non, okB_rT, okB_rTs, okB_rTt, ownL, wLt, wIn, inT_rTs, okE_int, okE_str, okE_rT, okE_rTs, okE_rTt, okE_nil, tyIs, wListF, wCatF, timesT, wZip]
  by_cases hm : x ∈ ps
  · simpa [hm] using q1 hm
  · simp only [hm, decide_false, Bool.false_eq_true, if_false]
    refine wLc_over (f0 := rT) (p := fun z => decide (z < x)) (F := rT) ps [] (by rw [List.length_nil, Nat.zero_add]; exact small5000 (by omega)) (fun z hz KK K' N k1 k2 => ?_) ?_
    · simp only [e_gap_of_1, es_gap_of_2, wCall_of h1, wSs, wS, w, mk, bOf, wEs, wXs, wP, wI, wIfs, wAnd, wOr, rd, L3.startT, frz, frz1, List.foldl, List.map, List.length, endsOf, List.cons_append, List.nil_append, List.replicate, List.set, Co.w, Bo.w, Bf.w, wCmp, wGcd, wFdv, wNeg, wMul, wAdd, wSub, wMod, wPar, Ms.fl, wMs, setM, Tg.w, wTup_cons, wTup_nil, wLcE, wF, List.getElem?_cons_zero, List.getElem?_cons_succ, List.set_cons_zero, List.set_cons_succ, Nat.reduceSub, Nat.reduceAdd, List.length_cons, List.length_nil, List.map_cons, List.map_nil, List.foldl_nil, List.replicate_succ, List.replicate_zero, Nat.reduceEqDiff, if_false, if_true, T.bl.injEq, T.int.injEq, T.str.injEq, T.tup.injEq, T.lst.injEq, exists_eq_left', true_or, and_true, true_and, reduceCtorEq, reduceIte, decide_eq_true_eq, seqT, Option.some.injEq, wipeT, wRev, wSl, false_or, or_true, bneF, bneT, Int.toNat_natCast, okB_int, okB_non, okB_rT, okB_rTs, okB_rTt, ownL, wLt, wIn, inT_rTs, okE_int, okE_str, okE_rT, okE_rTs, okE_rTt, okE_nil, tyIs, wListF, wCatF, timesT, wZip]
      refine ⟨z, x, rfl, hb z hz, hx, ?_⟩
      refine ⟨_, rfl, ?_⟩
      by_cases hzr : z < x
      · simp only [hzr, decide_true, if_true]; exact k1 (by simpa using hzr)
      · simp only [hzr, decide_false, Bool.false_eq_true, if_false]; exact k2 (by simpa using hzr)
    · rw [List.nil_append, List.length_map]
      exact q2 hm
/-- v's points that are not among ps, gap by gap -/
def ownP (rs ps : List Rat) : List (List Rat) := (List.range (ps.length + 1)).map fun g => rs.filter fun r => !decide (r ∈ ps) && decide (gapn ps r = g)
def sp_own (d : Nat) : VSp := fun ds Q _ => ∃ (v : Val) (ps : List Rat), ds = [vT v, .tup (ps.map rT)] ∧ BV 1000 v ∧ WV v ∧ vsz v ≤ 1000 ∧ dep v < d ∧ (∀ r ∈ ps, bd 1000 r) ∧ ps.length ≤ 1000 ∧ Q (.lst ((ownP (supp v) ps).map fun l => .lst (l.map rT)))
theorem own_add {rs ps : List Rat} {r : Rat} (h : r ∉ ps) : ((ownP rs ps).map fun l => T.lst (l.map rT)).set (gapn ps r) (.lst ((rs.filter fun x => !decide (x ∈ ps) && decide (gapn ps x = gapn ps r)).map rT ++ [rT r])) = (ownP (rs ++ [r]) ps).map fun l => T.lst (l.map rT) := by
  refine List.ext_getElem? fun j => ?_
  have hg := gapn_le (ps := ps) (x := r)
  unfold ownP
  by_cases hj : gapn ps r = j
  · subst hj
    rw [List.getElem?_set_self (by simp; omega)]
    rw [List.getElem?_map, List.getElem?_map, List.getElem?_range (by omega)]
    simp [List.filter_append, h]
  · rw [List.getElem?_set_ne hj]
    rw [List.getElem?_map, List.getElem?_map, List.getElem?_map, List.getElem?_map]
    by_cases hl : j < ps.length + 1
    · rw [List.getElem?_range hl]
      simp [List.filter_append, hj]
    · rw [List.getElem?_eq_none (by simp; omega)]
      rfl
theorem own_same {rs ps : List Rat} {r : Rat} (h : r ∈ ps) : ownP (rs ++ [r]) ps = ownP rs ps := by
  unfold ownP
  refine List.map_congr_left fun g _ => ?_
  simp [List.filter_append, h]
theorem ws_own {G : Gt} {d : Nat} (hs : G "support" = some ⟨1, 0, sp_supp d⟩) (hg : G "gap_of" = some ⟨2, 0, sp_gap_of⟩) (ds : List T) (Q : T → Prop) (E : Ex → Prop) (h : sp_own d ds Q E) : wSs G b_own_points (L3.startT ["value", "points", "found", "gap", "point"] ds) (endsOf 0 Q E) := by
  obtain ⟨v, ps, rfl, hb, hw, hz, hd, hbp, hl, q⟩ := h
  have hsl := supp_len v
  simp only [b_own_points, wSs, wS, w, mk, bOf, wEs, wXs, wP, wI, wIfs, wAnd, wOr, rd, L3.startT, frz, frz1, List.foldl, List.map, List.length, endsOf, List.cons_append, List.nil_append, List.replicate, List.set, Co.w, Bo.w, Bf.w, wCmp, wGcd, wFdv, wNeg, wMul, wAdd, wSub, wMod, wPar, Ms.fl, wMs, setM, Tg.w, wTup_cons, wTup_nil, wLcE, wF, List.getElem?_cons_zero, List.getElem?_cons_succ, List.set_cons_zero, List.set_cons_succ, Nat.reduceSub, Nat.reduceAdd, List.length_cons, List.length_nil, List.map_cons, List.map_nil, List.foldl_nil, List.replicate_succ, List.replicate_zero, Nat.reduceEqDiff, if_false, if_true, T.bl.injEq, T.int.injEq, T.str.injEq, T.tup.injEq, T.lst.injEq, exists_eq_left', true_or, and_true, true_and, reduceCtorEq, reduceIte, decide_eq_true_eq, seqT, Option.some.injEq, wipeT, wRev, wSl, false_or, or_true, bneF, bneT, Int.toNat_natCast, okB_int, okB_non, okB_rT, okB_rTs, okB_rTt, ownL, wLt, wIn, inT_rTs, okE_int, okE_str, okE_rT, okE_rTs, okE_rTt, okE_nil, tyIs, wListF, wCatF, timesT, wZip]
  rw [List.length_map]
  refine ⟨by omega, by omega, ?_⟩
  rw [show ((ps.length : Int) + 1).toNat = ps.length + 1 by omega, rng_map]
  refine wLc_each (F := fun _ => T.lst []) (List.range (ps.length + 1)) (by rw [List.length_range]; exact small5000 (by omega)) (fun i hi K K' N kk => ?_) ?_
  · simp only [if_true]
    exact ⟨Nat.zero_le _, kk⟩
  simp only [wCall_of hs, wSs, wS, w, mk, bOf, wEs, wXs, wP, wI, wIfs, wAnd, wOr, rd, L3.startT, frz, frz1, List.foldl, List.map, List.length, endsOf, List.cons_append, List.nil_append, List.replicate, List.set, Co.w, Bo.w, Bf.w, wCmp, wGcd, wFdv, wNeg, wMul, wAdd, wSub, wMod, wPar, Ms.fl, wMs, setM, Tg.w, wTup_cons, wTup_nil, wLcE, wF, List.getElem?_cons_zero, List.getElem?_cons_succ, List.set_cons_zero, List.set_cons_succ, Nat.reduceSub, Nat.reduceAdd, List.length_cons, List.length_nil, List.map_cons, List.map_nil, List.foldl_nil, List.replicate_succ, List.replicate_zero, Nat.reduceEqDiff, if_false, if_true, T.bl.injEq, T.int.injEq, T.str.injEq, T.tup.injEq, T.lst.injEq, exists_eq_left', true_or, and_true, true_and, reduceCtorEq, reduceIte, decide_eq_true_eq, seqT, Option.some.injEq, wipeT, wRev, wSl, false_or, or_true, bneF, bneT, Int.toNat_natCast, okB_int, okB_non, okB_rT, okB_rTs, okB_rTt, ownL, wLt, wIn, inT_rTs, okE_int, okE_str, okE_rT, okE_rTs, okE_rTt, okE_nil, tyIs, wListF, wCatF, timesT, wZip]
  refine ⟨v, rfl, hb, hw, hz, hd, _, rfl, ?_⟩
  refine wFor_inv (fun i ρ => ∃ x3 x4, ρ = [.sh (vT v), .sh (.tup (ps.map rT)), .own 2 (.lst ((ownP ((supp v).take i) ps).map fun l => .lst (l.map rT))), x3, x4]) ⟨_, _, by unfold ownP; rw [List.map_map]; rfl⟩ ?_ ?_
  · rintro i d0 ρ K hd0 ⟨x3, x4, rfl⟩ hK
    rw [List.getElem?_map] at hd0
    obtain ⟨r, hr, rfl⟩ := Option.map_eq_some_iff.mp hd0
    have hrm := List.mem_of_getElem? hr
    have ht : (supp v).take (i + 1) = (supp v).take i ++ [r] := by rw [List.take_add_one, hr]; rfl
    have hK' : ∀ x3 x4, K [.sh (vT v), .sh (.tup (ps.map rT)), .own 2 (.lst ((ownP ((supp v).take i ++ [r]) ps).map fun l => .lst (l.map rT))), x3, x4] := fun x3 x4 => hK _ ⟨x3, x4, by rw [ht]⟩
    simp only [b_own_points_1, wCall_of hg, wSs, wS, w, mk, bOf, wEs, wXs, wP, wI, wIfs, wAnd, wOr, rd, L3.startT, frz, frz1, List.foldl, List.map, List.length, endsOf, List.cons_append, List.nil_append, List.replicate, List.set, Co.w, Bo.w, Bf.w, wCmp, wGcd, wFdv, wNeg, wMul, wAdd, wSub, wMod, wPar, Ms.fl, wMs, setM, Tg.w, wTup_cons, wTup_nil, wLcE, wF, List.getElem?_cons_zero, List.getElem?_cons_succ, List.set_cons_zero, List.set_cons_succ, Nat.reduceSub, Nat.reduceAdd, List.length_cons, List.length_nil, List.map_cons, List.map_nil, List.foldl_nil, List.replicate_succ, List.replicate_zero, Nat.reduceEqDiff, if_false, if_true, T.bl.injEq, T.int.injEq, T.str.injEq, T.tup.injEq, T.lst.injEq, exists_eq_left', true_or, and_true, true_and, reduceCtorEq, reduceIte, decide_eq_true_eq, seqT, Option.some.injEq, wipeT, wRev, wSl, false_or, or_true, bneF, bneT, Int.toNat_natCast, okB_int, okB_non, okB_rT, okB_rTs, okB_rTt, ownL, wLt, wIn, inT_rTs, okE_int, okE_str, okE_rT, okE_rTs, okE_rTt, okE_nil, tyIs, wListF, wCatF, timesT, wZip]
    refine ⟨ps, r, rfl, hbp, hb.supp r hrm, by omega, fun hm => ?_, fun hm => ?_⟩
    · rw [own_same hm] at hK'
      simp only [wIs, wSs, wS, w, mk, bOf, wEs, wXs, wP, wI, wIfs, wAnd, wOr, rd, L3.startT, frz, frz1, List.foldl, List.map, List.length, endsOf, List.cons_append, List.nil_append, List.replicate, List.set, Co.w, Bo.w, Bf.w, wCmp, wGcd, wFdv, wNeg, wMul, wAdd, wSub, wMod, wPar, Ms.fl, wMs, setM, Tg.w, wTup_cons, wTup_nil, wLcE, wF, List.getElem?_cons_zero, List.getElem?_cons_succ, List.set_cons_zero, List.set_cons_succ, Nat.reduceSub, Nat.reduceAdd, List.length_cons, List.length_nil, List.map_cons, List.map_nil, List.foldl_nil, List.replicate_succ, List.replicate_zero, Nat.reduceEqDiff, if_false, if_true, T.bl.injEq, T.int.injEq, T.str.injEq, T.tup.injEq, T.lst.injEq, exists_eq_left', true_or, and_true, true_and, reduceCtorEq, reduceIte, decide_eq_true_eq, seqT, Option.some.injEq, wipeT, wRev, wSl, false_or, or_true, bneF, bneT, Int.toNat_natCast, okB_int, okB_non, okB_rT, okB_rTs, okB_rTt, ownL, wLt, wIn, inT_rTs, okE_int, okE_str, okE_rT, okE_rTs, okE_rTt, okE_nil, tyIs, wListF, wCatF, timesT, wZip]
      rw [if_neg (by decide)]
      exact hK' _ _
    · have hgl := gapn_le (ps := ps) (x := r)
      simp only [ownLL, wIs, wSs, wS, w, mk, bOf, wEs, wXs, wP, wI, wIfs, wAnd, wOr, rd, L3.startT, frz, frz1, List.foldl, List.map, List.length, endsOf, List.cons_append, List.nil_append, List.replicate, List.set, Co.w, Bo.w, Bf.w, wCmp, wGcd, wFdv, wNeg, wMul, wAdd, wSub, wMod, wPar, Ms.fl, wMs, setM, Tg.w, wTup_cons, wTup_nil, wLcE, wF, List.getElem?_cons_zero, List.getElem?_cons_succ, List.set_cons_zero, List.set_cons_succ, Nat.reduceSub, Nat.reduceAdd, List.length_cons, List.length_nil, List.map_cons, List.map_nil, List.foldl_nil, List.replicate_succ, List.replicate_zero, Nat.reduceEqDiff, if_false, if_true, T.bl.injEq, T.int.injEq, T.str.injEq, T.tup.injEq, T.lst.injEq, exists_eq_left', true_or, and_true, true_and, reduceCtorEq, reduceIte, decide_eq_true_eq, seqT, Option.some.injEq, wipeT, wRev, wSl, false_or, or_true, bneF, bneT, Int.toNat_natCast, okB_int, okB_non, okB_rT, okB_rTs, okB_rTt, ownL, wLt, wIn, inT_rTs, okE_int, okE_str, okE_rT, okE_rTs, okE_rTt, okE_nil, tyIs, wListF, wCatF, timesT, wZip]
      have hlen : (((supp v).take i).filter fun x => !decide (x ∈ ps) && decide (gapn ps x = gapn ps r)).length ≤ 1000 := by
        have h1 := List.length_filter_le (fun x => !decide (x ∈ ps) && decide (gapn ps x = gapn ps r)) ((supp v).take i)
        rw [List.length_take] at h1
        omega
      have hat : ((ownP ((supp v).take i) ps).map fun l => T.lst (l.map rT))[gapn ps r]? = some (.lst ((((supp v).take i).filter fun x => !decide (x ∈ ps) && decide (gapn ps x = gapn ps r)).map rT)) := by
        unfold ownP
        rw [List.getElem?_map, List.getElem?_map, List.getElem?_range (by omega)]
        rfl
      have fin := hK' (.sh (.int (gapn ps r))) (.sh (rT r))
      rw [← own_add hm] at fin
      have w0 : (∃ (g : Nat) (es : List T), ((gapn ps r : Nat) : Int) = (g : Int) ∧ ((ownP ((supp v).take i) ps).map fun l => T.lst (l.map rT))[g]? = some (T.lst es) ∧ es.length < sizeLine ∧
          K [.sh (vT v), .sh (.tup (ps.map rT)), .own 2 (.lst (((ownP ((supp v).take i) ps).map fun l => T.lst (l.map rT)).set g (.lst (es ++ [rT r])))), .sh (.int (gapn ps r)), .sh (rT r)]) :=
        ⟨_, _, rfl, hat, by rw [List.length_map]; exact small5000 (by omega), fin⟩
      rw [if_pos (by rfl)]
      exact w0
  · rintro ρ ⟨x3, x4, rfl⟩
    simp only [wSs, wS, w, mk, bOf, wEs, wXs, wP, wI, wIfs, wAnd, wOr, rd, L3.startT, frz, frz1, List.foldl, List.map, List.length, endsOf, List.cons_append, List.nil_append, List.replicate, List.set, Co.w, Bo.w, Bf.w, wCmp, wGcd, wFdv, wNeg, wMul, wAdd, wSub, wMod, wPar, Ms.fl, wMs, setM, Tg.w, wTup_cons, wTup_nil, wLcE, wF, List.getElem?_cons_zero, List.getElem?_cons_succ, List.set_cons_zero, List.set_cons_succ, Nat.reduceSub, Nat.reduceAdd, List.length_cons, List.length_nil, List.map_cons, List.map_nil, List.foldl_nil, List.replicate_succ, List.replicate_zero, Nat.reduceEqDiff, if_false, if_true, T.bl.injEq, T.int.injEq, T.str.injEq, T.tup.injEq, T.lst.injEq, exists_eq_left', true_or, and_true, true_and, reduceCtorEq, reduceIte, decide_eq_true_eq, seqT, Option.some.injEq, wipeT, wRev, wSl, false_or, or_true, bneF, bneT, Int.toNat_natCast, okB_int, okB_non, okB_rT, okB_rTs, okB_rTt, ownL, wLt, wIn, inT_rTs, okE_int, okE_str, okE_rT, okE_rTs, okE_rTt, okE_nil, tyIs, wListF, wCatF, timesT, wZip]
    rw [List.length_map, List.take_length]
    exact q
def sp_shape (d : Nat) : VSp := fun ds Q _ => ∃ (v : Val) (ps : List Rat), ds = [vT v, .tup (ps.map rT)] ∧ BV 1000 v ∧ WV v ∧ vsz v ≤ 1000 ∧ dep v < d ∧ (∀ r ∈ ps, bd 1000 r) ∧ ps.length ≤ 1000 ∧ Q (.tup ((ownP (supp v) ps).map fun l => .int (l.length : Int)))
theorem ws_shape {G : Gt} {d : Nat} (ho : G "own_points" = some ⟨2, 0, sp_own d⟩) (ds : List T) (Q : T → Prop) (E : Ex → Prop) (h : sp_shape d ds Q E) : wSs G b_shape (L3.startT ["value", "points", "some"] ds) (endsOf 0 Q E) := by
  obtain ⟨v, ps, rfl, hb, hw, hz, hd, hbp, hl, q⟩ := h
  simp only [b_shape, wCall_of ho, wSs, wS, w, mk, bOf, wEs, wXs, wP, wI, wIfs, wAnd, wOr, rd, L3.startT, frz, frz1, List.foldl, List.map, List.length, endsOf, List.cons_append, List.nil_append, List.replicate, List.set, Co.w, Bo.w, Bf.w, wCmp, wGcd, wFdv, wNeg, wMul, wAdd, wSub, wMod, wPar, Ms.fl, wMs, setM, Tg.w, wTup_cons, wTup_nil, wLcE, wF, List.getElem?_cons_zero, List.getElem?_cons_succ, List.set_cons_zero, List.set_cons_succ, Nat.reduceSub, Nat.reduceAdd, List.length_cons, List.length_nil, List.map_cons, List.map_nil, List.foldl_nil, List.replicate_succ, List.replicate_zero, Nat.reduceEqDiff, if_false, if_true, T.bl.injEq, T.int.injEq, T.str.injEq, T.tup.injEq, T.lst.injEq, exists_eq_left', true_or, and_true, true_and, reduceCtorEq, reduceIte, decide_eq_true_eq, seqT, Option.some.injEq, wipeT, wRev, wSl, false_or, or_true, bneF, bneT, Int.toNat_natCast, okB_int, okB_non, okB_rT, okB_rTs, okB_rTt, ownL, wLt, wIn, inT_rTs, okE_int, okE_str, okE_rT, okE_rTs, okE_rTt, okE_nil, tyIs, wListF, wCatF, timesT, wZip]
  refine ⟨v, ps, rfl, hb, hw, hz, hd, hbp, hl, _, rfl, ?_⟩
  refine wLc_each (f0 := fun l : List Rat => T.lst (l.map rT)) (F := fun l => T.int (l.length : Int)) (ownP (supp v) ps) (small5000 (by unfold ownP; rw [List.length_map, List.length_range]; omega)) (fun l hl K K' N kk => ?_) ?_
  · simp only [e_shape_1, wSs, wS, w, mk, bOf, wEs, wXs, wP, wI, wIfs, wAnd, wOr, rd, L3.startT, frz, frz1, List.foldl, List.map, List.length, endsOf, List.cons_append, List.nil_append, List.replicate, List.set, Co.w, Bo.w, Bf.w, wCmp, wGcd, wFdv, wNeg, wMul, wAdd, wSub, wMod, wPar, Ms.fl, wMs, setM, Tg.w, wTup_cons, wTup_nil, wLcE, wF, List.getElem?_cons_zero, List.getElem?_cons_succ, List.set_cons_zero, List.set_cons_succ, Nat.reduceSub, Nat.reduceAdd, List.length_cons, List.length_nil, List.map_cons, List.map_nil, List.foldl_nil, List.replicate_succ, List.replicate_zero, Nat.reduceEqDiff, if_false, if_true, T.bl.injEq, T.int.injEq, T.str.injEq, T.tup.injEq, T.lst.injEq, exists_eq_left', true_or, and_true, true_and, reduceCtorEq, reduceIte, decide_eq_true_eq, seqT, Option.some.injEq, wipeT, wRev, wSl, false_or, or_true, bneF, bneT, Int.toNat_natCast, okB_int, okB_non, okB_rT, okB_rTs, okB_rTt, ownL, wLt, wIn, inT_rTs, okE_int, okE_str, okE_rT, okE_rTs, okE_rTt, okE_nil, tyIs, wListF, wCatF, timesT, wZip]
    rw [List.length_map]
    exact kk
  · exact q
end LawP

/-! K10t: terms of the law (printed by gen.py). -/
namespace LawP
open PySem PySem.Spec PyProof.Rows L2 L3
def e_l_shape_1 : E := (.var 3)
def es_l_shape_2 : Es := (.cons (.cmp .eq (.call "_law_gap" (.cons (.var 1) (.cons (.var 3) .nil))) (.var 4)) .nil)
def e_l_shape_3 : E := (.bf .len (.cons (.lc e_l_shape_1 (.name 3) (.seq (.var 2)) es_l_shape_2 [("_law_one", 3)]) .nil))
def e_l_shape_4 : E := (.var 3)
def es_l_shape_5 : Es := (.cons (.cmp .notin (.var 3) (.var 1)) .nil)
def b_l_shape : Ss := (.cons (.set [] 2 (.lc e_l_shape_4 (.name 3) (.seq (.call "_law_support" (.cons (.var 0) .nil))) es_l_shape_5 [("_law_one", 3)])) (.cons (.ret [] (.bf .tuple (.cons (.lc e_l_shape_3 (.name 4) (.rng1 (.bin .add (.bf .len (.cons (.var 1) .nil)) (.int 1))) .nil [("_law_gap_here", 4)]) .nil))) .nil))
def e_law_1 : E := (.var 6)
def es_law_2 : Es := (.cons (.cmp .notin (.var 6) (.var 7)) .nil)
def e_law_3 : E := (.var 6)
def es_law_4 : Es := (.cons (.or (.cons (.not (.isi (.var 6) .int)) (.cons (.isi (.var 6) .bool) .nil))) .nil)
def e_law_5 : E := (.var 6)
def es_law_6 : Es := (.cons (.cmp .eq (.call "_law_pick" (.cons (.var 1) (.cons (.int 2) .nil))) (.int 0)) .nil)
def b_law_7 : Ss := (.cons (.set [] 4 (.ite (.cmp .eq (.call "_law_pick" (.cons (.var 1) (.cons (.int 2) .nil))) (.int 0)) (.call "_law_draw_value" (.cons (.var 1) (.cons (.var 2) (.cons (.int 3) .nil)))) (.call "_law_draw_set" (.cons (.var 1) (.cons (.var 2) (.cons (.int 3) (.cons (.int 3) .nil))))))) (.cons (.set [] 5 (.lc e_law_5 (.name 6) (.seq (.var 2)) es_law_6 [("_law_one", 6)])) (.cons (.set [] 7 (.bf .tuple (.cons (.call "_law_ascending" (.cons (.bin .add (.var 5) (.call "_law_draw_points" (.cons (.var 1) (.cons (.call "_law_pick" (.cons (.var 1) (.cons (.int 3) .nil))) .nil)))) .nil)) .nil))) (.cons (.par [] [8, 9] (.sh (.call "shape" (.cons (.var 4) (.cons (.var 7) .nil))) (.sh (.call "_law_support" (.cons (.var 4) .nil)) .nil))) (.cons (.ite [] (.or (.cons (.not (.isi (.var 8) .tuple)) (.cons (.cmp .ne (.var 8) (.call "_law_shape" (.cons (.var 4) (.cons (.bf .list (.cons (.var 7) .nil)) .nil)))) .nil))) (.cons (.ret [] (.bl false)) .nil) .nil) (.cons (.ite [] (.cmp .ne (.lc e_law_3 (.name 6) (.seq (.var 8)) es_law_4 [("_law_one", 6)]) (.lst .nil)) (.cons (.ret [] (.bl false)) .nil) .nil) (.cons (.ite [] (.or (.cons (.cmp .ne (.bf .sum (.cons (.var 8) .nil)) (.bf .len (.cons (.lc e_law_1 (.name 6) (.seq (.var 9)) es_law_2 [("_law_one", 6)]) .nil))) (.cons (.cmp .ne (.bf .len (.cons (.var 8) .nil)) (.bin .add (.bf .len (.cons (.var 7) .nil)) (.int 1))) .nil))) (.cons (.ret [] (.bl false)) .nil) .nil) (.cons (.ite [] (.or (.cons (.cmp .ne (.call "shape" (.cons (.call "_law_placed" (.cons (.var 4) (.cons (.bf .list (.cons (.var 7) .nil)) .nil))) (.cons (.var 7) .nil))) (.var 8)) (.cons (.cmp .ne (.call "shape" (.cons (.var 4) (.cons (.tup .nil) .nil))) (.tup (.cons (.bf .len (.cons (.var 9) .nil)) .nil))) .nil))) (.cons (.ret [] (.bl false)) .nil) .nil) (.cons (.ite [] (.cmp .ne (.call "shape" (.cons (.tup (.cons (.str "row") (.cons (.var 4) (.cons (.str "a") (.cons (.var 4) .nil))))) (.cons (.var 7) .nil))) (.var 8)) (.cons (.ret [] (.bl false)) .nil) .nil) .nil)))))))))
def b_law : Ss := (.cons (.set [] 1 (.call "_law_open_cells" (.cons (.var 0) .nil))) (.cons (.set [] 2 (.call "_law_draw_points" (.cons (.var 1) (.cons (.bin .add (.int 1) (.call "_law_pick" (.cons (.var 1) (.cons (.int 4) .nil)))) .nil)))) (.cons (.for [] (.name 3) (.rng1 (.int 4)) b_law_7) (.cons (.ret [] (.bl true)) .nil))))
end LawP

set_option exponentiation.threshold 4000
/-! K10a: the word of _law_shape, the law's word. -/
namespace LawP
open PySem PySem.Spec PyProof.Rows L2 L3

def shapeT (v : Val) (ps : List Rat) : T := .tup ((ownP (supp v) ps).map fun l => .int (l.length : Int))
theorem shape_eq {v : Val} {ps : List Rat} : shapeT v ps = .tup ((List.range (ps.length + 1)).map fun g => .int (((furth ps v).filter fun r => decide (gapn ps r = g)).length : Int)) := by
  unfold shapeT ownP
  rw [List.map_map]
  refine congrArg T.tup (List.map_congr_left fun g _ => ?_)
  simp only [Function.comp]
  unfold furth
  rw [List.filter_filter]
  refine congrArg (fun l : List Rat => T.int (l.length : Int)) (List.filter_congr fun x _ => ?_)
  rw [Bool.and_comm]
def sp_lshape (d : Nat) : VSp := fun ds Q _ => ∃ (v : Val) (ps : List Rat), ds = [vT v, .lst (ps.map rT)] ∧ BV 1000 v ∧ vsz v ≤ 1000 ∧ dep v < d ∧ (∀ r ∈ ps, bd 1000 r) ∧ ps.length ≤ 1000 ∧ Q (shapeT v ps)
theorem ws_lshape {G : Gt} {d : Nat} (hs : G "_law_support" = some ⟨1, 0, sp_lsupp d⟩) (hg : G "_law_gap" = some ⟨2, 0, sp_lgap⟩) (ds : List T) (Q : T → Prop) (E : Ex → Prop) (h : sp_lshape d ds Q E) : wSs G b_l_shape (L3.startT ["_law_value", "_law_points", "_law_further", "_law_one", "_law_gap_here"] ds) (endsOf 0 Q E) := by
  obtain ⟨v, ps, rfl, hb, hz, hd, hbp, hl, q⟩ := h
  rw [shape_eq] at q
  have hsl := supp_len v
  have hfl := furth_len (ps := ps) (v := v)
  simp only [b_l_shape, wCall_of hs, wSs, wS, w, mk, bOf, wEs, wXs, wP, wI, wIfs, wAnd, wOr, rd, L3.startT, frz, frz1, List.foldl, List.map, List.length, endsOf, List.cons_append, List.nil_append, List.replicate, List.set, Co.w, Bo.w, Bf.w, wCmp, wGcd, wFdv, wNeg, wMul, wAdd, wSub, wMod, wPar, Ms.fl, wMs, setM, Tg.w, wTup_cons, wTup_nil, wLcE, wF, List.getElem?_cons_zero, List.getElem?_cons_succ, List.set_cons_zero, List.set_cons_succ, Nat.reduceSub, Nat.reduceAdd, List.length_cons, List.length_nil, List.map_cons, List.map_nil, List.foldl_nil, List.replicate_succ, List.replicate_zero, Nat.reduceEqDiff, if_false, if_true, T.bl.injEq, T.int.injEq, T.str.injEq, T.tup.injEq, T.lst.injEq, exists_eq_left', true_or, and_true, true_and, reduceCtorEq, reduceIte, decide_eq_true_eq, seqT, Option.some.injEq, wipeT, wRev, wSl, false_or, or_true, bneF, bneT, Int.toNat_natCast, okB_int, okB_non, okB_rT, okB_rTs, okB_rTt, ownL, wLt, wIn, inT_rTs, okE_int, okE_str, okE_rT, okE_rTs, okE_rTt, okE_nil, tyIs, wListF, wCatF, timesT, wZip]
  refine ⟨v, rfl, hb, hz, hd, _, rfl, ?_⟩
  refine wLc_over (f0 := rT) (p := fun r => !decide (r ∈ ps)) (F := rT) (supp v) [] (by rw [List.length_nil, Nat.zero_add]; exact small5000 (by omega)) (fun z hz' KK K' N k1 k2 => ?_) ?_
  · simp only [e_l_shape_4, es_l_shape_5, wSs, wS, w, mk, bOf, wEs, wXs, wP, wI, wIfs, wAnd, wOr, rd, L3.startT, frz, frz1, List.foldl, List.map, List.length, endsOf, List.cons_append, List.nil_append, List.replicate, List.set, Co.w, Bo.w, Bf.w, wCmp, wGcd, wFdv, wNeg, wMul, wAdd, wSub, wMod, wPar, Ms.fl, wMs, setM, Tg.w, wTup_cons, wTup_nil, wLcE, wF, List.getElem?_cons_zero, List.getElem?_cons_succ, List.set_cons_zero, List.set_cons_succ, Nat.reduceSub, Nat.reduceAdd, List.length_cons, List.length_nil, List.map_cons, List.map_nil, List.foldl_nil, List.replicate_succ, List.replicate_zero, Nat.reduceEqDiff, if_false, if_true, T.bl.injEq, T.int.injEq, T.str.injEq, T.tup.injEq, T.lst.injEq, exists_eq_left', true_or, and_true, true_and, reduceCtorEq, reduceIte, decide_eq_true_eq, seqT, Option.some.injEq, wipeT, wRev, wSl, false_or, or_true, bneF, bneT, Int.toNat_natCast, okB_int, okB_non, okB_rT, okB_rTs, okB_rTt, ownL, wLt, wIn, inT_rTs, okE_int, okE_str, okE_rT, okE_rTs, okE_rTt, okE_nil, tyIs, wListF, wCatF, timesT, wZip]
    by_cases hg : z ∈ ps
    · simp only [hg, decide_true, Bool.not_true, Bool.false_eq_true, if_false]; exact k2 (by simpa using hg)
    · simp only [hg, decide_false, Bool.not_false, if_true]; exact k1 (by simpa using hg)
  simp only [furth_filt, wSs, wS, w, mk, bOf, wEs, wXs, wP, wI, wIfs, wAnd, wOr, rd, L3.startT, frz, frz1, List.foldl, List.map, List.length, endsOf, List.cons_append, List.nil_append, List.replicate, List.set, Co.w, Bo.w, Bf.w, wCmp, wGcd, wFdv, wNeg, wMul, wAdd, wSub, wMod, wPar, Ms.fl, wMs, setM, Tg.w, wTup_cons, wTup_nil, wLcE, wF, List.getElem?_cons_zero, List.getElem?_cons_succ, List.set_cons_zero, List.set_cons_succ, Nat.reduceSub, Nat.reduceAdd, List.length_cons, List.length_nil, List.map_cons, List.map_nil, List.foldl_nil, List.replicate_succ, List.replicate_zero, Nat.reduceEqDiff, if_false, if_true, T.bl.injEq, T.int.injEq, T.str.injEq, T.tup.injEq, T.lst.injEq, exists_eq_left', true_or, and_true, true_and, reduceCtorEq, reduceIte, decide_eq_true_eq, seqT, Option.some.injEq, wipeT, wRev, wSl, false_or, or_true, bneF, bneT, Int.toNat_natCast, okB_int, okB_non, okB_rT, okB_rTs, okB_rTt, ownL, wLt, wIn, inT_rTs, okE_int, okE_str, okE_rT, okE_rTs, okE_rTt, okE_nil, tyIs, wListF, wCatF, timesT, wZip]
  rw [List.length_map]
  refine ⟨by omega, by omega, ?_⟩
  rw [show ((ps.length : Int) + 1).toNat = ps.length + 1 by omega, rng_map]
  refine wLc_each (F := fun g : Nat => T.int (((furth ps v).filter fun r => decide (gapn ps r = g)).length : Int)) (List.range (ps.length + 1)) (by rw [List.length_range]; exact small5000 (by omega)) (fun g hg' K K' N kk => ?_) ?_
  · simp only [e_l_shape_3, wSs, wS, w, mk, bOf, wEs, wXs, wP, wI, wIfs, wAnd, wOr, rd, L3.startT, frz, frz1, List.foldl, List.map, List.length, endsOf, List.cons_append, List.nil_append, List.replicate, List.set, Co.w, Bo.w, Bf.w, wCmp, wGcd, wFdv, wNeg, wMul, wAdd, wSub, wMod, wPar, Ms.fl, wMs, setM, Tg.w, wTup_cons, wTup_nil, wLcE, wF, List.getElem?_cons_zero, List.getElem?_cons_succ, List.set_cons_zero, List.set_cons_succ, Nat.reduceSub, Nat.reduceAdd, List.length_cons, List.length_nil, List.map_cons, List.map_nil, List.foldl_nil, List.replicate_succ, List.replicate_zero, Nat.reduceEqDiff, if_false, if_true, T.bl.injEq, T.int.injEq, T.str.injEq, T.tup.injEq, T.lst.injEq, exists_eq_left', true_or, and_true, true_and, reduceCtorEq, reduceIte, decide_eq_true_eq, seqT, Option.some.injEq, wipeT, wRev, wSl, false_or, or_true, bneF, bneT, Int.toNat_natCast, okB_int, okB_non, okB_rT, okB_rTs, okB_rTt, ownL, wLt, wIn, inT_rTs, okE_int, okE_str, okE_rT, okE_rTs, okE_rTt, okE_nil, tyIs, wListF, wCatF, timesT, wZip]
    refine wLc_over (f0 := rT) (p := fun r => decide (gapn ps r = g)) (F := rT) (furth ps v) [] (by rw [List.length_nil, Nat.zero_add]; exact small5000 (by omega)) (fun z hz' KK K' N k1 k2 => ?_) ?_
    · simp only [e_l_shape_1, es_l_shape_2, wCall_of hg, wEq, wSs, wS, w, mk, bOf, wEs, wXs, wP, wI, wIfs, wAnd, wOr, rd, L3.startT, frz, frz1, List.foldl, List.map, List.length, endsOf, List.cons_append, List.nil_append, List.replicate, List.set, Co.w, Bo.w, Bf.w, wCmp, wGcd, wFdv, wNeg, wMul, wAdd, wSub, wMod, wPar, Ms.fl, wMs, setM, Tg.w, wTup_cons, wTup_nil, wLcE, wF, List.getElem?_cons_zero, List.getElem?_cons_succ, List.set_cons_zero, List.set_cons_succ, Nat.reduceSub, Nat.reduceAdd, List.length_cons, List.length_nil, List.map_cons, List.map_nil, List.foldl_nil, List.replicate_succ, List.replicate_zero, Nat.reduceEqDiff, if_false, if_true, T.bl.injEq, T.int.injEq, T.str.injEq, T.tup.injEq, T.lst.injEq, exists_eq_left', true_or, and_true, true_and, reduceCtorEq, reduceIte, decide_eq_true_eq, seqT, Option.some.injEq, wipeT, wRev, wSl, false_or, or_true, bneF, bneT, Int.toNat_natCast, okB_int, okB_non, okB_rT, okB_rTs, okB_rTt, ownL, wLt, wIn, inT_rTs, okE_int, okE_str, okE_rT, okE_rTs, okE_rTt, okE_nil, tyIs, wListF, wCatF, timesT, wZip]
      refine ⟨ps, z, rfl, hbp, hb.supp z (furth_in z hz'), by omega, ?_⟩
      refine ⟨rfl, ?_⟩
      rw [L3.eqT_int]
      by_cases hgg : gapn ps z = g
      · rw [if_pos (decide_eq_true (by omega))]; exact k1 (by simpa using hgg)
      · rw [if_neg (by simpa using fun (q : (gapn ps z : Int) = 0 + (g : Int)) => hgg (by omega))]; exact k2 (by simpa using hgg)
    · rw [List.nil_append, List.length_map]
      exact kk
  · exact q
theorem wLc_some {α : Type} {f0 : α → T} {P : T → Prop} {g : WG} {wt : WT} {we : WE} {ρ0 : Rho} {Q : List T → Prop} : ∀ (xs : List α) (acc : List T), acc.length + xs.length < sizeLine →
    (∀ x ∈ xs, ∀ (K : T → Prop) (K' : Prop) (N : Ex → Prop), (∀ d, P d → K d) → K' → g (f0 x) ρ0 fun ρ1 => wt ρ1 (fun b => if b = true then we ρ1 K NoEx else K') N) →
    (∀ ys : List T, ys.length ≤ xs.length → (∀ y ∈ ys, P y) → Q (acc ++ ys)) → wLc g wt we ρ0 Q (xs.map f0) acc
  | [], acc, _, _, q => by
    have := q [] (Nat.le_refl _) fun _ h => (nomatch h)
    rw [List.append_nil] at this
    simpa [wLc] using this
  | x :: xs, acc, hl, h, q => by
    rw [List.length_cons] at hl
    rw [List.map_cons]
    unfold wLc
    refine h x List.mem_cons_self _ _ _ (fun d hd => ⟨by omega, ?_⟩) ?_
    · refine wLc_some xs (acc ++ [d]) (by rw [List.length_append, List.length_singleton]; omega) (fun y hy => h y (List.mem_cons_of_mem _ hy)) fun ys hl hp => ?_
      rw [List.append_assoc]
      exact q (d :: ys) (by rw [List.length_cons, List.length_cons]; omega) fun y hy => (List.mem_cons.mp hy).elim (fun e => e ▸ hd) (hp y)
    · exact wLc_some xs acc (by omega) (fun y hy => h y (List.mem_cons_of_mem _ hy)) fun ys hl hp => q ys (by rw [List.length_cons]; omega) hp
structure Gs (G : Gt) : Prop where
  op : G "_law_open_cells" = some ⟨1, 0, spOpen⟩
  pick : G "_law_pick" = some ⟨2, 0, spPick⟩
  draw : G "_law_draw_points" = some ⟨2, 0, sp_ldraw⟩
  asc : G "_law_ascending" = some ⟨1, 0, sp_asc⟩
  dval : G "_law_draw_value" = some ⟨3, 0, sp_ldval 4⟩
  dset : G "_law_draw_set" = some ⟨4, 0, sp_ldset 4⟩
  shape : G "shape" = some ⟨2, 0, sp_shape 8⟩
  lshape : G "_law_shape" = some ⟨2, 0, sp_lshape 8⟩
  lsupp : G "_law_support" = some ⟨1, 0, sp_lsupp 8⟩
  placed : G "_law_placed" = some ⟨2, 0, sp_lplaced 8⟩
theorem wNe_pass {d d' : T} {A B : Prop} (h1 : okE d d' = true) (h2 : L3.eqT d d' = true) (k : B) : wEq true d d' (fun d => ∃ b, d = T.bl b ∧ if b = true then A else B) :=
  ⟨h1, _, rfl, by rw [h2]; exact k⟩
theorem eqT_same {d : T} (h : okB d = true) : L3.eqT d d = true := by
  unfold L3.eqT
  exact PySem.SeqAt.eqv_refl _ (okD_lay h).1
theorem ints_map {α : Type} {f : α → Int} : ∀ xs : List α, intsT (xs.map fun x => T.int (f x)) = some (xs.map f)
  | [] => rfl
  | x :: xs => by rw [List.map_cons, intsT, ints_map xs]; rfl
theorem sum_natC : ∀ l : List Nat, (l.map fun (n : Nat) => (n : Int)).sum = ((l.sum : Nat) : Int)
  | [] => rfl
  | n :: l => by rw [List.map_cons, List.sum_cons, List.sum_cons, sum_natC l]; omega
theorem shape_sum {v : Val} {ps : List Rat} : ((ownP (supp v) ps).map fun l => (l.length : Int)).sum = ((furth ps v).length : Int) := by
  have h := sum_filt (c := gapn ps) (m := ps.length + 1) (xs := furth ps v) fun x _ => by have := gapn_le (ps := ps) (x := x); omega
  rw [← h, ← sum_natC, List.map_map]
  unfold ownP
  rw [List.map_map]
  refine congrArg List.sum (List.map_congr_left fun g _ => ?_)
  simp only [Function.comp]
  unfold furth
  rw [List.filter_filter]
  refine congrArg (fun l : List Rat => (l.length : Int)) (List.filter_congr fun x _ => ?_)
  rw [Bool.and_comm]
theorem shape_plc {v : Val} {ps : List Rat} (hw : WV v) (hp : Asc ps) : shapeT (plc v ps) ps = shapeT v ps := by
  unfold shapeT ownP
  rw [List.map_map, List.map_map]
  refine congrArg T.tup (List.map_congr_left fun g _ => ?_)
  simp only [Function.comp]
  rw [plc_gaps hw hp g]
theorem shape_nil {v : Val} : shapeT v [] = .tup [.int ((supp v).length : Int)] := by
  unfold shapeT ownP
  have e : (supp v).filter (fun r => !decide (r ∈ ([] : List Rat)) && decide (gapn [] r = 0)) = supp v := List.filter_eq_self.mpr fun x _ => by simp [gapn]
  simp only [List.length_nil, Nat.zero_add, List.range_one, List.map_cons, List.map_nil]
  rw [e]
theorem supp_row2 {v : Val} (hw : WV v) : supp (.row [v, .word "a", v]) = supp v := by
  rw [supp, suppL, suppL, suppL, suppL, supp]
  exact Asc.ext asc_asc (supp_asc hw) fun x => by rw [asc_mem]; simp
theorem val_ite {b : Addr} {pool : List Rat} {r : Int} {K : T → Prop} {E : Ex → Prop} (hp : DrPool 6 3 pool) (h : ∀ v, Dr 6 3 v → K (vT v)) :
    wEq false (.int r) (.int 0) (fun d => ∃ b_1, d = .bl b_1 ∧ if b_1 = true then sp_ldval 4 [.src 1 b, .lst (pool.map rT), .int 3] K E else sp_ldset 4 [.src 1 b, .lst (pool.map rT), .int 3, .int 3] K E) := by
  refine ⟨okE_int, _, rfl, ?_⟩
  by_cases c : (L3.eqT (.int r) (.int 0) != false) = true
  · rw [if_pos c]
    exact ⟨b, pool, 6, 3, rfl, hp, by decide, h⟩
  · rw [if_neg c]
    exact ⟨b, pool, 6, 2, 3, rfl, hp, by decide, by decide, fun qs ms hd => h _ hd⟩
theorem ws_law {G : Gt} (g : Gs G) (ds : List T) (Q : T → Prop) (E : Ex → Prop) (h : spLaw ds Q E) : wSs G b_law (L3.startT ["_law_script", "_law_source", "_law_pool", "_law_lap", "_law_value", "_law_mine", "_law_one", "_law_points", "_law_found", "_law_support_here"] ds) (endsOf 0 Q E) := by
  obtain ⟨a, rfl, q⟩ := h
  simp only [b_law, wCall_of g.op, wSs, wS, w, mk, bOf, wEs, wXs, wP, wI, wIfs, wAnd, wOr, rd, L3.startT, frz, frz1, List.foldl, List.map, List.length, endsOf, List.cons_append, List.nil_append, List.replicate, List.set, Co.w, Bo.w, Bf.w, wCmp, wGcd, wFdv, wNeg, wMul, wAdd, wSub, wMod, wPar, Ms.fl, wMs, setM, Tg.w, wTup_cons, wTup_nil, wLcE, wF, List.getElem?_cons_zero, List.getElem?_cons_succ, List.set_cons_zero, List.set_cons_succ, Nat.reduceSub, Nat.reduceAdd, List.length_cons, List.length_nil, List.map_cons, List.map_nil, List.foldl_nil, List.replicate_succ, List.replicate_zero, Nat.reduceEqDiff, if_false, if_true, T.bl.injEq, T.int.injEq, T.str.injEq, T.tup.injEq, T.lst.injEq, exists_eq_left', true_or, and_true, true_and, reduceCtorEq, reduceIte, decide_eq_true_eq, seqT, Option.some.injEq, wipeT, wRev, wSl, false_or, or_true, bneF, bneT, Int.toNat_natCast, okB_int, okB_non, okB_rT, okB_rTs, okB_rTt, ownL, wLt, wIn, inT_rTs, okE_int, okE_str, okE_rT, okE_rTs, okE_rTt, okE_nil, tyIs, wListF, wCatF, timesT, wZip]
  refine ⟨a, rfl, fun b => ?_⟩
  simp only [wCall_of g.draw, wCall_of g.pick, wSs, wS, w, mk, bOf, wEs, wXs, wP, wI, wIfs, wAnd, wOr, rd, L3.startT, frz, frz1, List.foldl, List.map, List.length, endsOf, List.cons_append, List.nil_append, List.replicate, List.set, Co.w, Bo.w, Bf.w, wCmp, wGcd, wFdv, wNeg, wMul, wAdd, wSub, wMod, wPar, Ms.fl, wMs, setM, Tg.w, wTup_cons, wTup_nil, wLcE, wF, List.getElem?_cons_zero, List.getElem?_cons_succ, List.set_cons_zero, List.set_cons_succ, Nat.reduceSub, Nat.reduceAdd, List.length_cons, List.length_nil, List.map_cons, List.map_nil, List.foldl_nil, List.replicate_succ, List.replicate_zero, Nat.reduceEqDiff, if_false, if_true, T.bl.injEq, T.int.injEq, T.str.injEq, T.tup.injEq, T.lst.injEq, exists_eq_left', true_or, and_true, true_and, reduceCtorEq, reduceIte, decide_eq_true_eq, seqT, Option.some.injEq, wipeT, wRev, wSl, false_or, or_true, bneF, bneT, Int.toNat_natCast, okB_int, okB_non, okB_rT, okB_rTs, okB_rTt, ownL, wLt, wIn, inT_rTs, okE_int, okE_str, okE_rT, okE_rTs, okE_rTt, okE_nil, tyIs, wListF, wCatF, timesT, wZip]
  refine ⟨b, 4, rfl, by decide, fun r hr0 hr1 => ?_⟩
  obtain ⟨m, rfl⟩ : ∃ m : Nat, r = (m : Int) := ⟨r.toNat, by omega⟩
  simp only [wSs, wS, w, mk, bOf, wEs, wXs, wP, wI, wIfs, wAnd, wOr, rd, L3.startT, frz, frz1, List.foldl, List.map, List.length, endsOf, List.cons_append, List.nil_append, List.replicate, List.set, Co.w, Bo.w, Bf.w, wCmp, wGcd, wFdv, wNeg, wMul, wAdd, wSub, wMod, wPar, Ms.fl, wMs, setM, Tg.w, wTup_cons, wTup_nil, wLcE, wF, List.getElem?_cons_zero, List.getElem?_cons_succ, List.set_cons_zero, List.set_cons_succ, Nat.reduceSub, Nat.reduceAdd, List.length_cons, List.length_nil, List.map_cons, List.map_nil, List.foldl_nil, List.replicate_succ, List.replicate_zero, Nat.reduceEqDiff, if_false, if_true, T.bl.injEq, T.int.injEq, T.str.injEq, T.tup.injEq, T.lst.injEq, exists_eq_left', true_or, and_true, true_and, reduceCtorEq, reduceIte, decide_eq_true_eq, seqT, Option.some.injEq, wipeT, wRev, wSl, false_or, or_true, bneF, bneT, Int.toNat_natCast, okB_int, okB_non, okB_rT, okB_rTs, okB_rTt, ownL, wLt, wIn, inT_rTs, okE_int, okE_str, okE_rT, okE_rTs, okE_rTt, okE_nil, tyIs, wListF, wCatF, timesT, wZip]
  refine ⟨b, 1 + m, by rw [Int.natCast_add]; rfl, by omega, fun pool hpool => ?_⟩
  have hm : 1 + m ≤ 4 := by omega
  have hpl := hpool.len
  have hdp : ∀ n, n ≤ 3 → DrPool 6 n pool := fun n hn => ⟨by decide, hpool.bd, by omega, by omega, by omega, by
    have c : n = 0 ∨ n = 1 ∨ n = 2 ∨ n = 3 := by omega
    rcases c with rfl | rfl | rfl | rfl <;> decide⟩
  refine ⟨by decide, by decide, ?_⟩
  refine wFor_inv (fun i ρ => ∃ x3 x4 x5 x6 x7 x8 x9, ρ = [.sh (.src 0 a), .sh (.src 1 b), .sh (.lst (pool.map rT)), x3, x4, x5, x6, x7, x8, x9]) ⟨_, _, _, _, _, _, _, rfl⟩ ?_ ?_
  · rintro i d ρ K hd ⟨x3, x4, x5, x6, x7, x8, x9, rfl⟩ hK
    obtain ⟨hi, rfl⟩ := rng_at hd
    simp only [b_law_7, wCall_of g.pick, wCall_of g.dval, wCall_of g.dset, wSs, wS, w, mk, bOf, wEs, wXs, wP, wI, wIfs, wAnd, wOr, rd, L3.startT, frz, frz1, List.foldl, List.map, List.length, endsOf, List.cons_append, List.nil_append, List.replicate, List.set, Co.w, Bo.w, Bf.w, wCmp, wGcd, wFdv, wNeg, wMul, wAdd, wSub, wMod, wPar, Ms.fl, wMs, setM, Tg.w, wTup_cons, wTup_nil, wLcE, wF, List.getElem?_cons_zero, List.getElem?_cons_succ, List.set_cons_zero, List.set_cons_succ, Nat.reduceSub, Nat.reduceAdd, List.length_cons, List.length_nil, List.map_cons, List.map_nil, List.foldl_nil, List.replicate_succ, List.replicate_zero, Nat.reduceEqDiff, if_false, if_true, T.bl.injEq, T.int.injEq, T.str.injEq, T.tup.injEq, T.lst.injEq, exists_eq_left', true_or, and_true, true_and, reduceCtorEq, reduceIte, decide_eq_true_eq, seqT, Option.some.injEq, wipeT, wRev, wSl, false_or, or_true, bneF, bneT, Int.toNat_natCast, okB_int, okB_non, okB_rT, okB_rTs, okB_rTt, ownL, wLt, wIn, inT_rTs, okE_int, okE_str, okE_rT, okE_rTs, okE_rTt, okE_nil, tyIs, wListF, wCatF, timesT, wZip]
    refine ⟨b, 2, rfl, by decide, fun r1 h10 h11 => ?_⟩
    refine val_ite (hdp 3 (by decide)) fun v hv => ?_
    have hdv := hv.dp
    have hsv := hv.sz
    have h79 : dsz 3 = 79 := by decide
    have bv : BV 1000 v := hv.bv.mono (by decide)
    refine wLc_some (f0 := rT) (P := fun d => ∃ r, d = rT r ∧ r ∈ pool) pool [] (by rw [List.length_nil, Nat.zero_add]; exact small5000 (by omega)) (fun z hz KK K' N k1 k2 => ?_) fun ys hyl hy => ?_
    · simp only [e_law_5, es_law_6, wCall_of g.pick, wSs, wS, w, mk, bOf, wEs, wXs, wP, wI, wIfs, wAnd, wOr, rd, L3.startT, frz, frz1, List.foldl, List.map, List.length, endsOf, List.cons_append, List.nil_append, List.replicate, List.set, Co.w, Bo.w, Bf.w, wCmp, wGcd, wFdv, wNeg, wMul, wAdd, wSub, wMod, wPar, Ms.fl, wMs, setM, Tg.w, wTup_cons, wTup_nil, wLcE, wF, List.getElem?_cons_zero, List.getElem?_cons_succ, List.set_cons_zero, List.set_cons_succ, Nat.reduceSub, Nat.reduceAdd, List.length_cons, List.length_nil, List.map_cons, List.map_nil, List.foldl_nil, List.replicate_succ, List.replicate_zero, Nat.reduceEqDiff, if_false, if_true, T.bl.injEq, T.int.injEq, T.str.injEq, T.tup.injEq, T.lst.injEq, exists_eq_left', true_or, and_true, true_and, reduceCtorEq, reduceIte, decide_eq_true_eq, seqT, Option.some.injEq, wipeT, wRev, wSl, false_or, or_true, bneF, bneT, Int.toNat_natCast, okB_int, okB_non, okB_rT, okB_rTs, okB_rTt, ownL, wLt, wIn, inT_rTs, okE_int, okE_str, okE_rT, okE_rTs, okE_rTt, okE_nil, tyIs, wListF, wCatF, timesT, wZip]
      refine ⟨b, 2, rfl, by decide, fun r2 h20 h21 => ?_⟩
      refine ⟨okE_int, _, rfl, ?_⟩
      split
      · exact k1 _ ⟨z, rfl, hz⟩
      · exact k2
    obtain ⟨mine, rfl, hmine⟩ := pts_any hy
    rw [List.length_map] at hyl
    rw [List.nil_append]
    refine ⟨b, 3, rfl, by decide, fun r3 h30 h31 => ?_⟩
    obtain ⟨m3, rfl⟩ : ∃ m : Nat, r3 = (m : Int) := ⟨r3.toNat, by omega⟩
    simp only [wCall_of g.draw, wSs, wS, w, mk, bOf, wEs, wXs, wP, wI, wIfs, wAnd, wOr, rd, L3.startT, frz, frz1, List.foldl, List.map, List.length, endsOf, List.cons_append, List.nil_append, List.replicate, List.set, Co.w, Bo.w, Bf.w, wCmp, wGcd, wFdv, wNeg, wMul, wAdd, wSub, wMod, wPar, Ms.fl, wMs, setM, Tg.w, wTup_cons, wTup_nil, wLcE, wF, List.getElem?_cons_zero, List.getElem?_cons_succ, List.set_cons_zero, List.set_cons_succ, Nat.reduceSub, Nat.reduceAdd, List.length_cons, List.length_nil, List.map_cons, List.map_nil, List.foldl_nil, List.replicate_succ, List.replicate_zero, Nat.reduceEqDiff, if_false, if_true, T.bl.injEq, T.int.injEq, T.str.injEq, T.tup.injEq, T.lst.injEq, exists_eq_left', true_or, and_true, true_and, reduceCtorEq, reduceIte, decide_eq_true_eq, seqT, Option.some.injEq, wipeT, wRev, wSl, false_or, or_true, bneF, bneT, Int.toNat_natCast, okB_int, okB_non, okB_rT, okB_rTs, okB_rTt, ownL, wLt, wIn, inT_rTs, okE_int, okE_str, okE_rT, okE_rTs, okE_rTt, okE_nil, tyIs, wListF, wCatF, timesT, wZip]
    refine ⟨b, m3, rfl, by omega, fun more hmore => ?_⟩
    have hml := hmore.len
    simp only [wSs, wS, w, mk, bOf, wEs, wXs, wP, wI, wIfs, wAnd, wOr, rd, L3.startT, frz, frz1, List.foldl, List.map, List.length, endsOf, List.cons_append, List.nil_append, List.replicate, List.set, Co.w, Bo.w, Bf.w, wCmp, wGcd, wFdv, wNeg, wMul, wAdd, wSub, wMod, wPar, Ms.fl, wMs, setM, Tg.w, wTup_cons, wTup_nil, wLcE, wF, List.getElem?_cons_zero, List.getElem?_cons_succ, List.set_cons_zero, List.set_cons_succ, Nat.reduceSub, Nat.reduceAdd, List.length_cons, List.length_nil, List.map_cons, List.map_nil, List.foldl_nil, List.replicate_succ, List.replicate_zero, Nat.reduceEqDiff, if_false, if_true, T.bl.injEq, T.int.injEq, T.str.injEq, T.tup.injEq, T.lst.injEq, exists_eq_left', true_or, and_true, true_and, reduceCtorEq, reduceIte, decide_eq_true_eq, seqT, Option.some.injEq, wipeT, wRev, wSl, false_or, or_true, bneF, bneT, Int.toNat_natCast, okB_int, okB_non, okB_rT, okB_rTs, okB_rTt, ownL, wLt, wIn, inT_rTs, okE_int, okE_str, okE_rT, okE_rTs, okE_rTt, okE_nil, tyIs, wListF, wCatF, timesT, wZip]
    refine ⟨by rw [List.length_map, List.length_map]; exact Nat.le_of_lt (small5000 (by omega)), ?_⟩
    simp only [wCall_of g.asc, wSs, wS, w, mk, bOf, wEs, wXs, wP, wI, wIfs, wAnd, wOr, rd, L3.startT, frz, frz1, List.foldl, List.map, List.length, endsOf, List.cons_append, List.nil_append, List.replicate, List.set, Co.w, Bo.w, Bf.w, wCmp, wGcd, wFdv, wNeg, wMul, wAdd, wSub, wMod, wPar, Ms.fl, wMs, setM, Tg.w, wTup_cons, wTup_nil, wLcE, wF, List.getElem?_cons_zero, List.getElem?_cons_succ, List.set_cons_zero, List.set_cons_succ, Nat.reduceSub, Nat.reduceAdd, List.length_cons, List.length_nil, List.map_cons, List.map_nil, List.foldl_nil, List.replicate_succ, List.replicate_zero, Nat.reduceEqDiff, if_false, if_true, T.bl.injEq, T.int.injEq, T.str.injEq, T.tup.injEq, T.lst.injEq, exists_eq_left', true_or, and_true, true_and, reduceCtorEq, reduceIte, decide_eq_true_eq, seqT, Option.some.injEq, wipeT, wRev, wSl, false_or, or_true, bneF, bneT, Int.toNat_natCast, okB_int, okB_non, okB_rT, okB_rTs, okB_rTt, ownL, wLt, wIn, inT_rTs, okE_int, okE_str, okE_rT, okE_rTs, okE_rTt, okE_nil, tyIs, wListF, wCatF, timesT, wZip]
    have bMM : ∀ r ∈ mine ++ more, bd 6 r := fun r hr => (List.mem_append.mp hr).elim (fun z => hpool.bd r (hmine r z)) (hmore.bd r)
    refine ⟨mine ++ more, by rw [List.map_append], fun r hr => (bMM r hr).mono (by decide), by rw [List.length_append]; omega, ?_⟩
    have hpa : Asc (asc (mine ++ more)) := asc_asc
    have hpb : ∀ r ∈ asc (mine ++ more), bd 6 r := fun r hr => bMM r (asc_mem.mp hr)
    have hpn : (asc (mine ++ more)).length ≤ 6 := by
      have := asc_len_le (l := mine ++ more)
      rw [List.length_append] at this
      omega
    generalize asc (mine ++ more) = ps at hpa hpb hpn
    have hpb' : ∀ r ∈ ps, bd 1000 r := fun r hr => (hpb r hr).mono (by decide)
    simp only [wCall_of g.shape, wCall_of g.lsupp, wSs, wS, w, mk, bOf, wEs, wXs, wP, wI, wIfs, wAnd, wOr, rd, L3.startT, frz, frz1, List.foldl, List.map, List.length, endsOf, List.cons_append, List.nil_append, List.replicate, List.set, Co.w, Bo.w, Bf.w, wCmp, wGcd, wFdv, wNeg, wMul, wAdd, wSub, wMod, wPar, Ms.fl, wMs, setM, Tg.w, wTup_cons, wTup_nil, wLcE, wF, List.getElem?_cons_zero, List.getElem?_cons_succ, List.set_cons_zero, List.set_cons_succ, Nat.reduceSub, Nat.reduceAdd, List.length_cons, List.length_nil, List.map_cons, List.map_nil, List.foldl_nil, List.replicate_succ, List.replicate_zero, Nat.reduceEqDiff, if_false, if_true, T.bl.injEq, T.int.injEq, T.str.injEq, T.tup.injEq, T.lst.injEq, exists_eq_left', true_or, and_true, true_and, reduceCtorEq, reduceIte, decide_eq_true_eq, seqT, Option.some.injEq, wipeT, wRev, wSl, false_or, or_true, bneF, bneT, Int.toNat_natCast, okB_int, okB_non, okB_rT, okB_rTs, okB_rTt, ownL, wLt, wIn, inT_rTs, okE_int, okE_str, okE_rT, okE_rTs, okE_rTt, okE_nil, tyIs, wListF, wCatF, timesT, wZip]
    refine ⟨v, ps, rfl, bv, hv.wv, by omega, by omega, hpb', by omega, ?_⟩
    refine ⟨v, rfl, bv, by omega, by omega, ?_⟩
    simp only [wCall_of g.lshape, wSs, wS, w, mk, bOf, wEs, wXs, wP, wI, wIfs, wAnd, wOr, rd, L3.startT, frz, frz1, List.foldl, List.map, List.length, endsOf, List.cons_append, List.nil_append, List.replicate, List.set, Co.w, Bo.w, Bf.w, wCmp, wGcd, wFdv, wNeg, wMul, wAdd, wSub, wMod, wPar, Ms.fl, wMs, setM, Tg.w, wTup_cons, wTup_nil, wLcE, wF, List.getElem?_cons_zero, List.getElem?_cons_succ, List.set_cons_zero, List.set_cons_succ, Nat.reduceSub, Nat.reduceAdd, List.length_cons, List.length_nil, List.map_cons, List.map_nil, List.foldl_nil, List.replicate_succ, List.replicate_zero, Nat.reduceEqDiff, if_false, if_true, T.bl.injEq, T.int.injEq, T.str.injEq, T.tup.injEq, T.lst.injEq, exists_eq_left', true_or, and_true, true_and, reduceCtorEq, reduceIte, decide_eq_true_eq, seqT, Option.some.injEq, wipeT, wRev, wSl, false_or, or_true, bneF, bneT, Int.toNat_natCast, okB_int, okB_non, okB_rT, okB_rTs, okB_rTt, ownL, wLt, wIn, inT_rTs, okE_int, okE_str, okE_rT, okE_rTs, okE_rTt, okE_nil, tyIs, wListF, wCatF, timesT, wZip]
    have okS : ∀ (u : Val) (qs : List Rat), okB (shapeT u qs) = true := fun u qs => okB_tup fun x hx => by
      obtain ⟨l, _, rfl⟩ := List.mem_map.mp hx
      rfl
    have hso : (ownP (supp v) ps).length = ps.length + 1 := by unfold ownP; rw [List.length_map, List.length_range]
    have hsup := supp_len v
    rw [Bool.not_true, if_neg (by decide)]
    refine ⟨v, ps, rfl, bv, by omega, by omega, hpb', by omega, ?_⟩
    refine wNe_pass (okE_of (okS v ps) (okS v ps)) (eqT_same (okS v ps)) ?_
    refine wLc_over (f0 := fun l : List Rat => T.int (l.length : Int)) (p := fun _ => false) (F := fun l : List Rat => T.int (l.length : Int)) (ownP (supp v) ps) [] (by rw [List.length_nil, Nat.zero_add]; exact small5000 (by omega)) (fun z hz KK K' N k1 k2 => ?_) ?_
    · simp only [e_law_3, es_law_4, wSs, wS, w, mk, bOf, wEs, wXs, wP, wI, wIfs, wAnd, wOr, rd, L3.startT, frz, frz1, List.foldl, List.map, List.length, endsOf, List.cons_append, List.nil_append, List.replicate, List.set, Co.w, Bo.w, Bf.w, wCmp, wGcd, wFdv, wNeg, wMul, wAdd, wSub, wMod, wPar, Ms.fl, wMs, setM, Tg.w, wTup_cons, wTup_nil, wLcE, wF, List.getElem?_cons_zero, List.getElem?_cons_succ, List.set_cons_zero, List.set_cons_succ, Nat.reduceSub, Nat.reduceAdd, List.length_cons, List.length_nil, List.map_cons, List.map_nil, List.foldl_nil, List.replicate_succ, List.replicate_zero, Nat.reduceEqDiff, if_false, if_true, T.bl.injEq, T.int.injEq, T.str.injEq, T.tup.injEq, T.lst.injEq, exists_eq_left', true_or, and_true, true_and, reduceCtorEq, reduceIte, decide_eq_true_eq, seqT, Option.some.injEq, wipeT, wRev, wSl, false_or, or_true, bneF, bneT, Int.toNat_natCast, okB_int, okB_non, okB_rT, okB_rTs, okB_rTt, ownL, wLt, wIn, inT_rTs, okE_int, okE_str, okE_rT, okE_rTs, okE_rTt, okE_nil, tyIs, wListF, wCatF, timesT, wZip]
      rw [Bool.not_true, if_neg (by decide)]
      exact k2 rfl
    rw [List.filter_eq_nil_iff.mpr (by simp)]
    refine ⟨Nat.zero_le _, ?_⟩
    refine wNe_pass (by decide) (eqT_same (by decide)) ?_
    refine ⟨_, ints_map (ownP (supp v) ps), ?_⟩
    refine wLc_over (f0 := rT) (p := fun r => !decide (r ∈ ps)) (F := rT) (supp v) [] (by rw [List.length_nil, Nat.zero_add]; exact small5000 (by omega)) (fun z hz' KK K' N k1 k2 => ?_) ?_
    · simp only [e_law_1, es_law_2, wSs, wS, w, mk, bOf, wEs, wXs, wP, wI, wIfs, wAnd, wOr, rd, L3.startT, frz, frz1, List.foldl, List.map, List.length, endsOf, List.cons_append, List.nil_append, List.replicate, List.set, Co.w, Bo.w, Bf.w, wCmp, wGcd, wFdv, wNeg, wMul, wAdd, wSub, wMod, wPar, Ms.fl, wMs, setM, Tg.w, wTup_cons, wTup_nil, wLcE, wF, List.getElem?_cons_zero, List.getElem?_cons_succ, List.set_cons_zero, List.set_cons_succ, Nat.reduceSub, Nat.reduceAdd, List.length_cons, List.length_nil, List.map_cons, List.map_nil, List.foldl_nil, List.replicate_succ, List.replicate_zero, Nat.reduceEqDiff, if_false, if_true, T.bl.injEq, T.int.injEq, T.str.injEq, T.tup.injEq, T.lst.injEq, exists_eq_left', true_or, and_true, true_and, reduceCtorEq, reduceIte, decide_eq_true_eq, seqT, Option.some.injEq, wipeT, wRev, wSl, false_or, or_true, bneF, bneT, Int.toNat_natCast, okB_int, okB_non, okB_rT, okB_rTs, okB_rTt, ownL, wLt, wIn, inT_rTs, okE_int, okE_str, okE_rT, okE_rTs, okE_rTt, okE_nil, tyIs, wListF, wCatF, timesT, wZip]
      by_cases hg : z ∈ ps
      · simp only [hg, decide_true, Bool.not_true, Bool.false_eq_true, if_false]; exact k2 (by simpa using hg)
      · simp only [hg, decide_false, Bool.not_false, if_true]; exact k1 (by simpa using hg)
    rw [List.nil_append, furth_filt, shape_sum, List.length_map]
    refine wNe_pass okE_int (eqT_same okB_int) ?_
    rw [List.length_map, List.length_map, hso]
    refine wNe_pass okE_int (by rw [L3.eqT_int]; exact decide_eq_true (by omega)) ?_
    simp only [wCall_of g.placed, wSs, wS, w, mk, bOf, wEs, wXs, wP, wI, wIfs, wAnd, wOr, rd, L3.startT, frz, frz1, List.foldl, List.map, List.length, endsOf, List.cons_append, List.nil_append, List.replicate, List.set, Co.w, Bo.w, Bf.w, wCmp, wGcd, wFdv, wNeg, wMul, wAdd, wSub, wMod, wPar, Ms.fl, wMs, setM, Tg.w, wTup_cons, wTup_nil, wLcE, wF, List.getElem?_cons_zero, List.getElem?_cons_succ, List.set_cons_zero, List.set_cons_succ, Nat.reduceSub, Nat.reduceAdd, List.length_cons, List.length_nil, List.map_cons, List.map_nil, List.foldl_nil, List.replicate_succ, List.replicate_zero, Nat.reduceEqDiff, if_false, if_true, T.bl.injEq, T.int.injEq, T.str.injEq, T.tup.injEq, T.lst.injEq, exists_eq_left', true_or, and_true, true_and, reduceCtorEq, reduceIte, decide_eq_true_eq, seqT, Option.some.injEq, wipeT, wRev, wSl, false_or, or_true, bneF, bneT, Int.toNat_natCast, okB_int, okB_non, okB_rT, okB_rTs, okB_rTt, ownL, wLt, wIn, inT_rTs, okE_int, okE_str, okE_rT, okE_rTs, okE_rTt, okE_nil, tyIs, wListF, wCatF, timesT, wZip]
    have ok : PlOk 8 6 v := hv.ok (hdp 3 (by decide)) (by decide)
    have okp := ok.plc hpa (by decide) hpb
    refine ⟨v, ps, 6, rfl, ok, hpa, by decide, hpb, by omega, ?_⟩
    refine ⟨plc v ps, ps, rfl, okp.bv.mono (by decide), okp.wv, okp.sz, okp.dp, hpb', by omega, ?_⟩
    refine wNe_pass (d := shapeT (plc v ps) ps) (d' := shapeT v ps) (okE_of (okS _ _) (okS _ _)) (by rw [shape_plc hv.wv hpa]; exact eqT_same (okS v ps)) ?_
    refine ⟨Nat.zero_le _, ?_⟩
    refine ⟨v, [], rfl, bv, hv.wv, by omega, by omega, fun _ z => (nomatch z), by decide, ?_⟩
    refine ⟨by decide, ?_⟩
    refine wNe_pass (d := shapeT v []) (d' := .tup [.int (((supp v).map rT).length : Int)]) (okE_of (okS _ _) (by rfl)) (by rw [shape_nil, List.length_map]; exact eqT_same (by rfl)) ?_
    refine ⟨by decide, ?_⟩
    have wvR : WV (.row [v, .word "a", v]) := by
      rw [WV, WVL_iff]
      intro u hu
      simp only [List.mem_cons, List.not_mem_nil, or_false] at hu
      rcases hu with rfl | rfl | rfl
      · exact hv.wv
      · exact ⟨by decide +kernel, by decide +kernel, by decide +kernel⟩
      · exact hv.wv
    have bvR : BV 1000 (.row [v, .word "a", v]) := by
      rw [BV, BVL_iff]
      intro u hu
      simp only [List.mem_cons, List.not_mem_nil, or_false] at hu
      rcases hu with rfl | rfl | rfl
      · exact bv
      · rw [BV]; trivial
      · exact bv
    have eR : T.tup [.str "row", vT v, .str "a", vT v] = vT (.row [v, .word "a", v]) := by
      rw [vT_row, List.map_cons, List.map_cons, List.map_cons, List.map_nil, show vT (.word "a") = .str "a" by rw [vT]]
    refine ⟨.row [v, .word "a", v], ps, by rw [eR], bvR, wvR, by simp only [vsz, vszL]; omega, by simp only [dep, depL]; omega, hpb', by omega, ?_⟩
    refine wNe_pass (d := shapeT (.row [v, .word "a", v]) ps) (d' := shapeT v ps) (okE_of (okS _ _) (okS _ _)) (by
      have e : shapeT (.row [v, .word "a", v]) ps = shapeT v ps := by unfold shapeT; rw [supp_row2 hv.wv]
      rw [e]; exact eqT_same (okS v ps)) ?_
    exact hK _ ⟨_, _, _, _, _, _, _, rfl⟩
  · rintro ρ ⟨x3, x4, x5, x6, x7, x8, x9, rfl⟩
    simp only [wSs, wS, w, mk, bOf, wEs, wXs, wP, wI, wIfs, wAnd, wOr, rd, L3.startT, frz, frz1, List.foldl, List.map, List.length, endsOf, List.cons_append, List.nil_append, List.replicate, List.set, Co.w, Bo.w, Bf.w, wCmp, wGcd, wFdv, wNeg, wMul, wAdd, wSub, wMod, wPar, Ms.fl, wMs, setM, Tg.w, wTup_cons, wTup_nil, wLcE, wF, List.getElem?_cons_zero, List.getElem?_cons_succ, List.set_cons_zero, List.set_cons_succ, Nat.reduceSub, Nat.reduceAdd, List.length_cons, List.length_nil, List.map_cons, List.map_nil, List.foldl_nil, List.replicate_succ, List.replicate_zero, Nat.reduceEqDiff, if_false, if_true, T.bl.injEq, T.int.injEq, T.str.injEq, T.tup.injEq, T.lst.injEq, exists_eq_left', true_or, and_true, true_and, reduceCtorEq, reduceIte, decide_eq_true_eq, seqT, Option.some.injEq, wipeT, wRev, wSl, false_or, or_true, bneF, bneT, Int.toNat_natCast, okB_int, okB_non, okB_rT, okB_rTs, okB_rTt, ownL, wLt, wIn, inT_rTs, okE_int, okE_str, okE_rT, okE_rTs, okE_rTt, okE_nil, tyIs, wListF, wCatF, timesT, wZip]
    exact q
end LawP

namespace LawP
open PySem PySem.Spec PyProof.Rows L2 L3
def topS (i : Nat) : Stmt := PySem.Challenge.pw_gapwise_k10_shapes.main.body.getD i (.Pass ⟨0, 0, 0, 0⟩)

abbrev s_open : Stmt := topS 11
abbrev s_pick : Stmt := topS 12
theorem sc_open : FnScope ["_law_script", "_law_mixed", "_law_cell", "_law_cells"] ["_law_script"] (defScope s_open) := ⟨rfl, rfl, rfl, by decide +kernel, rfl, by decide +kernel, by decide +kernel⟩
theorem sc_pick : FnScope ["_law_source", "_law_most", "_law_cells", "_law_left", "_law_turn", "_law_mixed"] ["_law_source", "_law_most"] (defScope s_pick) := ⟨rfl, rfl, rfl, by decide +kernel, rfl, by decide +kernel, by decide +kernel⟩
section
variable {P : Program} {w : World} {K : PySem.W.Frag} {mg : Str → Option Value} {base : Heap}
theorem ok_pick0 {f : Addr} {fd : FuncData} {k : Nat} (F : Fun K "_law_pick" "_law_pick" s_pick f fd) (ml : mg "len" = none) (mi : mg "int" = none) : FnG P w K mg base (k + 1) f fd ["_law_source", "_law_most"] spPick0 := by
  refine okG F sc_pick (fun vs H Q E ⟨a, c, n, e, _⟩ => by rw [e]; rfl) fun cdv _ A outer s H vs Q E hr hgd h => ?_
  obtain ⟨a, c, n, rfl, hn, hS, q⟩ := h
  have hu : (A.deeper (envOfC "_law_pick" (defScope s_pick) s.heap.objs.size f cdv)).units + 1 < cLine := by have := hr.un; omega
  refine ⟨_, pss_cons (ps_if (pt_cmpR op_lt (pv 1) pe_int (nomark _)) (pss_one (ps_ret pe_int)) pss_nil)
    (pss_cons (ps_set (i := 2) sc_pick.nd rfl (.inl rfl) (pe_dget hu (pv 0) pe_str (fun _ _ => rfl)))
    (pss_cons (ps_while (passes_of rfl) (PW.pt (pw_and (pt_cmpR op_lt (pe_dget hu (pv 0) pe_str (fun _ _ => rfl)) pe_int (nomark _)) (pw_and1 (pt_cmpR op_gt (pe_callB call_len_seq (by rfl) ml PySem.boot_len (pa_cons (pv 2) pa_nil)) pe_int (nomark _)))))
      (pss_one (ps_dput hu (pv 0) pe_str (pe_bm0 PySem.F.plainAttrs_list PySem.F.slot_list_pop PySem.F.type_list_pop mt_pop (pv 2)) rfl)))
    (pss_cons (ps_set (i := 3) sc_pick.nd rfl (.inl rfl) (pe_dget hu (pv 0) pe_str (fun _ _ => rfl)))
    (pss_cons (ps_if (pt_cmpR op_gt (pv 3) pe_int (nomark _))
        (pss_cons (ps_dput hu (pv 0) pe_str (pe_op op_fdivW (pv 3) (pv 1)) rfl)
        (pss_one (ps_ret (pe_op op_mod (pe_callTy call_int1 (by rfl) mi (boot_of (b := .int)) (pa_cons (pv 3) pa_nil)) (pv 1))))) pss_nil)
    (pss_cons (ps_dput hu (pv 0) pe_str (pe_op op_add (pe_dget hu (pv 0) pe_str (fun _ _ => rfl)) pe_int) rfl)
    (pss_cons (ps_set (i := 4) sc_pick.nd rfl (.inl rfl) (pe_dget hu (pv 0) pe_str (fun _ _ => rfl)))
    (pss_cons (ps_set (i := 5) sc_pick.nd rfl (.inl rfl) (pe_op op_mod (pe_callTy call_int1 (by rfl) mi (boot_of (b := .int)) (pa_cons (pe_op op_add (pe_dget hu (pv 0) pe_str (fun _ _ => rfl)) (pe_op op_mulS (pv 4) pe_int)) pa_nil)) pe_int))
    (pss_cons (ps_set (i := 5) sc_pick.nd rfl (.inl rfl) (pe_op op_mod (pe_callTy call_int1 (by rfl) mi (boot_of (b := .int)) (pa_cons (pe_op op_add (pe_op op_mulS (pv 5) (pv 5)) (pe_op op_mulS (pv 4) pe_int)) pa_nil)) pe_int))
    (pss_one (ps_ret (pe_op op_mod (pe_callTy call_int1 (by rfl) mi (boot_of (b := .int)) (pa_cons (pe_op op_fdivW (pv 5) pe_int) pa_nil)) (pv 1)))))))))))), ?_⟩
  refine ⟨.int n, rfl, n, 2, rfl, rfl, _, rfl, ite2 (fun e => ?_) (fun e => ?_)⟩
  · exact q 0 H hS (Int.le_refl 0) (.inr rfl)
  · have hn2 : ¬ n < 2 := fun z => e (decide_eq_true z)
    have hn0 : (0 : Int) < n := by omega
    have hdv : ∀ i : Int, CDivW i n := fun i => wide_div hn0 (b := 200) (by omega) (by decide) (by decide)
    obtain ⟨hca, ⟨l, m, t, hA⟩, ⟨cs, hcs⟩, _⟩ := id hS
    refine ⟨.ref a, rfl, a, .ref c, rfl, .inl ⟨_, kCells, .inl hA, rfl, rfl⟩, ?_⟩
    refine ⟨fun j σ' H' => σ' = [some (.ref a), some (.int n), some (.ref c), none, none, none] ∧ SrcAt H a c H' ∧ ∃ cs : List Int, H' c = some (.lst (cs.map V.int)) ∧ cs.length = j, ⟨_, rfl, hS, cs, hcs, rfl⟩, ?_⟩
    rintro j σ' H' ⟨rfl, hS', cs', hcs', rfl⟩
    obtain ⟨_, ⟨l', m', t', hA'⟩, _, _⟩ := id hS'
    refine ⟨.ref a, rfl, a, .int l', rfl, .inl ⟨_, kLeft, .inl hA', rfl, get_left.symm⟩, l', 2, rfl, rfl, _, rfl, ite2 (fun e1 => ⟨.ref c, rfl, c, cs'.map V.int, rfl, .inl (.of hcs'), _, 0, rfl, rfl, _, rfl, ite2 (fun e2 => ?body) (fun e2 => ?exit1)⟩) (fun e1 => ite2 (fun z => nomatch z) fun _ => ?exit2)⟩
    case body =>
      have hl : (0 : Int) < ((cs'.map V.int).length : Nat) := of_decide_eq_true e2
      rw [List.length_map] at hl
      obtain ⟨z, hz⟩ : ∃ z, cs'[cs'.length - 1]? = some z := ⟨_, List.getElem?_eq_getElem (by omega)⟩
      refine ⟨fun σ2 H2 => σ2 = [some (.ref a), some (.int n), some (.ref c), none, none, none] ∧ SrcAt H a c H2 ∧ ∃ ds : List Int, H2 c = some (.lst (ds.map V.int)) ∧ ds.length < cs'.length, fun σ2 H2 ⟨e3, h3, ds, h4, h5⟩ => ⟨_, h5, e3, h3, ds, h4, rfl⟩, ?_⟩
      refine ⟨.ref c, rfl, .inl ⟨rfl, _, .of hcs'⟩, c, _, .int z, rfl, rfl, hcs', by rw [List.length_map, List.getElem?_map, hz]; rfl, .ref a, rfl, a, _, rfl, .k (k := kLeft) (kvs := kvS c l' m' t') (by rw [upd_ne hca.symm]; exact hA') (show 4 < sizeLine by decide), ?_⟩
      rw [put_left, ← List.map_dropLast]
      exact ⟨rfl, (hS'.putC _).putA _ _ _, cs'.dropLast, by rw [upd_ne hca]; exact upd_same, by rw [List.length_dropLast]; omega⟩
    all_goals
      refine ⟨.ref a, rfl, a, .int l', rfl, .inl ⟨_, kLeft, .inl hA', rfl, get_left.symm⟩, ?_⟩
      refine ⟨.int l', rfl, l', 1, rfl, rfl, _, rfl, ite2 (fun e => ?_) (fun e => ?_)⟩
      · refine ⟨.int l', rfl, .int n, rfl, l', n, rfl, rfl, hdv l', .ref a, rfl, a, _, rfl, .k (k := kLeft) hA' (show 4 < sizeLine by decide), ?_⟩
        rw [put_left]
        exact ⟨.int l', rfl, .inl ⟨l', rfl, .int n, rfl, l', n, rfl, rfl, hn0, q _ _ (hS'.putA _ _ _) (Int.emod_nonneg _ (by omega)) (.inl (Int.emod_lt_of_pos _ hn0))⟩⟩
      · refine ⟨.ref a, rfl, a, .int t', rfl, .inl ⟨_, kTurn, .inl hA', rfl, get_turn.symm⟩, t', 1, rfl, rfl, .ref a, rfl, a, _, rfl, .k (k := kTurn) hA' (show 4 < sizeLine by decide), ?_⟩
        rw [put_turn]
        have hS2 := hS'.putA l' m' (t' + 1)
        have hA2 : (upd H' a (.dK (kvS c l' m' (t' + 1)))) a = some (.dK (kvS c l' m' (t' + 1))) := upd_same
        refine ⟨.ref a, rfl, a, .int (t' + 1), rfl, .inl ⟨_, kTurn, .inl hA2, rfl, get_turn.symm⟩, ?_⟩
        refine ⟨.ref a, rfl, a, .int m', rfl, .inl ⟨_, kMixed, .inl hA2, rfl, get_mixed.symm⟩, .int (t' + 1), rfl, t' + 1, 104729, rfl, rfl, .of_right (by decide), m', _, rfl, rfl, .inl ⟨_, rfl, _, 998244353, rfl, rfl, (show (0 : Int) < 998244353 by decide), ?_⟩⟩
        have hx0 : 0 ≤ (m' + (t' + 1) * 104729) % 998244353 := by exact Int.emod_nonneg _ (by decide)
        have hx1 : (m' + (t' + 1) * 104729) % 998244353 < 998244353 := by exact Int.emod_lt_of_pos _ (by decide)
        refine ⟨_, rfl, _, rfl, _, _, rfl, rfl, .of_left (PySem.intBits_le_64 (by omega) (by omega)), .int (t' + 1), rfl, t' + 1, 17, rfl, rfl, .of_right (by decide), _, _, rfl, rfl, .inl ⟨_, rfl, _, 2147483647, rfl, rfl, (show (0 : Int) < 2147483647 by decide), ?_⟩⟩
        exact ⟨_, rfl, _, 16, rfl, rfl, wide_div (by decide) (b := 5) (by decide) (by decide) (by decide), .inl ⟨_, rfl, .int n, rfl, _, n, rfl, rfl, hn0, q _ _ hS2 (Int.emod_nonneg _ (by omega)) (.inl (Int.emod_lt_of_pos _ hn0))⟩⟩
theorem ok_open0 {f : Addr} {fd : FuncData} {k : Nat} (F : Fun K "_law_open_cells" "_law_open_cells" s_open f fd) (ma : mg "abs" = none) (mi : mg "int" = none) : FnG P w K mg base (k + 1) f fd ["_law_script"] (spOpen0 K) := by
  refine okG F sc_open (fun vs H Q E ⟨a, n, e, _⟩ => by rw [e]; rfl) fun cdv _ A outer s H vs Q E hr hgd h => ?_
  obtain ⟨a0, ns, rfl, hS, hl, q⟩ := h
  refine ⟨_, pss_cons (ps_set (i := 1) sc_open.nd rfl (.inl rfl) pe_int)
    (pss_cons (ps_for (passes_of rfl) rfl (pi_list (pv 0)) (pg_name (i := 2) sc_open.nd rfl (.inl rfl))
      (pss_one (ps_set (i := 1) sc_open.nd rfl (.inl rfl) (pe_op op_mod (pe_callTy call_int1 (by rfl) mi (boot_of (b := .int)) (pa_cons (pe_op op_add (pe_op op_add (pe_op op_mulS (pv 1) pe_int) (pe_op op_mulS (pv 2) pe_int)) pe_int) pa_nil)) pe_int))))
    (pss_cons (ps_setLc (i := 3) (own := [("_law_cell", 2)]) rfl sc_open.nd rfl rfl (by exact sw_true rfl rfl (by decide +kernel) (by decide +kernel)) (pi_list (pv 0)) (blkOk_by (N := ["_law_script", "_law_mixed", "_law_cell", "_law_cells"]) (sc := defScope s_open) (by decide +kernel))
        (fun s H C cl fp => pg_name (i := 2) sc_open.nd rfl (.inl rfl)) (fun s H C cl fp => pts_nil) (fun s H C cl fp => pe_callB call_abs (by rfl) ma (boot_of (b := .abs)) (pa_cons (pv 2) pa_nil)))
    (pss_one (ps_ret (pe_disp (pps_cons pe_str (pe_revL (pv 3)) (pps_cons pe_str pe_int (pps_cons pe_str (pv 1) (pps_cons pe_str pe_int pps_nil)))) rfl rfl (by simp) (by decide)))))), ?_⟩
  refine ⟨.ref a0, rfl, a0, rfl, ⟨_, hS⟩, ?_⟩
  refine for_it (walk_list (K := K) (a := a0) (xs := ns.map V.int)) (fun i σ' H' => ∃ m y, σ' = [some (.ref a0), some (.int m), y, none] ∧ H' = H) ⟨11, none, rfl, rfl⟩ (fun i σ' H' _ ⟨_, _, _, e⟩ => by rw [e]; exact hS) (fun i x σ' H1 H2 hi p y => ?_) fun σ' H' p => ?_
  · obtain ⟨m, y0, rfl, rfl⟩ := p
    obtain ⟨rfl, hx⟩ := y
    rw [List.getElem?_map] at hx
    obtain ⟨z, hz, rfl⟩ := Option.map_eq_some_iff.mp hx
    exact ⟨.int m, rfl, m, 69069, rfl, rfl, .of_right (by decide), .int z, rfl, z, 31, rfl, rfl, .of_right (by decide), _, _, rfl, rfl, _, 5, rfl, rfl, .inl ⟨_, rfl, _, 2147483629, rfl, rfl, (show (0 : Int) < 2147483629 by decide), _, _, rfl, rfl⟩⟩
  · obtain ⟨m, y0, rfl, rfl⟩ := p
    refine ⟨.ref a0, rfl, a0, rfl, ⟨_, hS⟩, fun Dd hD => ?_⟩
    refine lc_it (walk_list (K := K) (a := a0) (xs := ns.map V.int)) (fun i H1 => ∃ cs : List Int, cs.length = i ∧ H1 = upd H' Dd (.lst (cs.map V.int))) ⟨[], rfl, rfl⟩ (fun i H1 _ ⟨cs, _, e⟩ => by rw [e]; exact (same_new hD).seq hS) (fun i x H1 H2 hi p y => ?_) fun H1 p => ?_
    · obtain ⟨cs, hcl, rfl⟩ := p
      obtain ⟨rfl, hx⟩ := y
      rw [List.getElem?_map] at hx
      obtain ⟨z, hz, rfl⟩ := Option.map_eq_some_iff.mp hx
      rw [List.length_map] at hi
      refine ⟨rfl, ?_⟩
      unfold tYes
      dsimp only
      rw [if_pos rfl]
      refine ⟨.int z, rfl, z, rfl, _, upd_same, ?_, cs ++ [if z < 0 then -z else z], by rw [List.length_append, hcl]; rfl, ?_⟩
      · rw [List.length_map]
        exact small1000 (by omega)
      · rw [upd_upd, List.map_append]
        rfl
    · obtain ⟨cs, _, rfl⟩ := p
      refine fun p hp => ⟨.ref Dd, rfl, Dd, cs.map V.int, rfl, .of (by rw [upd_ne (none_upd hp).1.symm]; exact upd_same), fun c hc => ⟨.int m, rfl, by rw [upd_ne (none_upd hc).1.symm]; exact upd_same, kvS c 1 m 0, rfl, (show 4 ≤ 15 by decide), ?_⟩⟩
      rw [merge_kvS]
      have h1 := none_upd hp
      have h2 := none_upd hc
      have h3 := none_upd h2.2
      refine q p c _ h2.1 h1.2 h3.2 ⟨1, m, 0, upd_same⟩ ⟨cs.reverse, by rw [upd_ne h2.1, upd_same, List.map_reverse]⟩ fun b x e => ?_
      rw [upd_ne (ne_of_none e h1.2), upd_ne (ne_of_none e h3.2), upd_ne (ne_of_none e h1.2)]
      exact same_new hD b x e
end
--END SRC

abbrev s_l_point : Stmt := topS 13
theorem sc_l_point : FnScope ["_law_p", "_law_q", "_law_a", "_law_b"] ["_law_p", "_law_q"] (defScope s_l_point) := ⟨rfl, rfl, rfl, by decide +kernel, rfl, by decide +kernel, by decide +kernel⟩
def c_l_point : Sc := { N := ["_law_p", "_law_q", "_law_a", "_law_b"], sc := defScope s_l_point, osc := defScope s_l_point, bn := ["int", "abs"], fns := [], frs := [], gcd := false, lam := false, lfns := [] }
theorem t_l_point {G : Gt} : Text G s_l_point ["_law_p", "_law_q", "_law_a", "_law_b"] ["_law_p", "_law_q"] c_l_point b_l_point := ⟨sc_l_point, rfl, rfl, rfl, by decide +kernel⟩
abbrev s_l_draw_points : Stmt := topS 26
theorem sc_l_draw_points : FnScope ["_law_source", "_law_many", "_law_found", "_law_here", "_law_lap", "_law_q"] ["_law_source", "_law_many"] (defScope s_l_draw_points) := ⟨rfl, rfl, rfl, by decide +kernel, rfl, by decide +kernel, by decide +kernel⟩
def c_l_draw_points : Sc := { N := ["_law_source", "_law_many", "_law_found", "_law_here", "_law_lap", "_law_q"], sc := defScope s_l_draw_points, osc := defScope s_l_draw_points, bn := ["range"], fns := ["_law_pick", "_law_point"], frs := [], gcd := false, lam := false, lfns := [] }
theorem t_l_draw_points {G : Gt} : Text G s_l_draw_points ["_law_source", "_law_many", "_law_found", "_law_here", "_law_lap", "_law_q"] ["_law_source", "_law_many"] c_l_draw_points b_l_draw_points := ⟨sc_l_draw_points, rfl, rfl, rfl, by decide +kernel⟩
abbrev s_l_less : Stmt := topS 14
theorem sc_l_less : FnScope ["_law_one", "_law_other"] ["_law_one", "_law_other"] (defScope s_l_less) := ⟨rfl, rfl, rfl, by decide +kernel, rfl, by decide +kernel, by decide +kernel⟩
def c_l_less : Sc := { N := ["_law_one", "_law_other"], sc := defScope s_l_less, osc := defScope s_l_less, bn := [], fns := [], frs := [], gcd := false, lam := false, lfns := [] }
theorem t_l_less {G : Gt} : Text G s_l_less ["_law_one", "_law_other"] ["_law_one", "_law_other"] c_l_less b_l_less := ⟨sc_l_less, rfl, rfl, rfl, by decide +kernel⟩
abbrev s_l_ascending : Stmt := topS 15
theorem sc_l_ascending : FnScope ["_law_some", "_law_found", "_law_point_here", "_law_low", "_law_one"] ["_law_some"] (defScope s_l_ascending) := ⟨rfl, rfl, rfl, by decide +kernel, rfl, by decide +kernel, by decide +kernel⟩
def c_l_ascending : Sc := { N := ["_law_some", "_law_found", "_law_point_here", "_law_low", "_law_one"], sc := defScope s_l_ascending, osc := defScope s_l_ascending, bn := ["len"], fns := ["_law_less"], frs := [], gcd := false, lam := false, lfns := [] }
theorem t_l_ascending {G : Gt} : Text G s_l_ascending ["_law_some", "_law_found", "_law_point_here", "_law_low", "_law_one"] ["_law_some"] c_l_ascending b_l_ascending := ⟨sc_l_ascending, rfl, rfl, rfl, by decide +kernel⟩
abbrev s_l_support : Stmt := topS 18
theorem sc_l_support : FnScope ["_law_value", "_law_found", "_law_part"] ["_law_value"] (defScope s_l_support) := ⟨rfl, rfl, rfl, by decide +kernel, rfl, by decide +kernel, by decide +kernel⟩
def c_l_support : Sc := { N := ["_law_value", "_law_found", "_law_part"], sc := defScope s_l_support, osc := defScope s_l_support, bn := ["list", "isinstance", "str"], fns := ["_law_ascending", "_law_support"], frs := [], gcd := false, lam := false, lfns := [] }
theorem t_l_support {G : Gt} : Text G s_l_support ["_law_value", "_law_found", "_law_part"] ["_law_value"] c_l_support b_l_support := ⟨sc_l_support, rfl, rfl, rfl, by decide +kernel⟩
abbrev s_l_gap : Stmt := topS 16
theorem sc_l_gap : FnScope ["_law_points", "_law_point_here", "_law_one"] ["_law_points", "_law_point_here"] (defScope s_l_gap) := ⟨rfl, rfl, rfl, by decide +kernel, rfl, by decide +kernel, by decide +kernel⟩
def c_l_gap : Sc := { N := ["_law_points", "_law_point_here", "_law_one"], sc := defScope s_l_gap, osc := defScope s_l_gap, bn := ["len"], fns := ["_law_less"], frs := [], gcd := false, lam := false, lfns := [] }
theorem t_l_gap {G : Gt} : Text G s_l_gap ["_law_points", "_law_point_here", "_law_one"] ["_law_points", "_law_point_here"] c_l_gap b_l_gap := ⟨sc_l_gap, rfl, rfl, rfl, by decide +kernel⟩
abbrev s_l_spread : Stmt := topS 17
theorem sc_l_spread : FnScope ["_law_points", "_law_gap_here", "_law_n", "_law_i", "_law_p", "_law_q", "_law_a", "_law_b", "_law_c", "_law_d"] ["_law_points", "_law_gap_here", "_law_n"] (defScope s_l_spread) := ⟨rfl, rfl, rfl, by decide +kernel, rfl, by decide +kernel, by decide +kernel⟩
def c_l_spread : Sc := { N := ["_law_points", "_law_gap_here", "_law_n", "_law_i", "_law_p", "_law_q", "_law_a", "_law_b", "_law_c", "_law_d"], sc := defScope s_l_spread, osc := defScope s_l_spread, bn := ["range", "len"], fns := ["_law_point"], frs := [], gcd := false, lam := false, lfns := [] }
theorem t_l_spread {G : Gt} : Text G s_l_spread ["_law_points", "_law_gap_here", "_law_n", "_law_i", "_law_p", "_law_q", "_law_a", "_law_b", "_law_c", "_law_d"] ["_law_points", "_law_gap_here", "_law_n"] c_l_spread b_l_spread := ⟨sc_l_spread, rfl, rfl, rfl, by decide +kernel⟩
abbrev s_l_ends : Stmt := topS 21
theorem sc_l_ends : FnScope ["_law_olds", "_law_news", "_law_further", "_law_found", "_law_gap_here", "_law_many", "_law_one"] ["_law_olds", "_law_news", "_law_further"] (defScope s_l_ends) := ⟨rfl, rfl, rfl, by decide +kernel, rfl, by decide +kernel, by decide +kernel⟩
def c_l_ends : Sc := { N := ["_law_olds", "_law_news", "_law_further", "_law_found", "_law_gap_here", "_law_many", "_law_one"], sc := defScope s_l_ends, osc := defScope s_l_ends, bn := ["range", "len", "list"], fns := ["_law_ascending", "_law_spread", "_law_gap"], frs := [], gcd := false, lam := false, lfns := [] }
theorem t_l_ends {G : Gt} : Text G s_l_ends ["_law_olds", "_law_news", "_law_further", "_law_found", "_law_gap_here", "_law_many", "_law_one"] ["_law_olds", "_law_news", "_law_further"] c_l_ends b_l_ends := ⟨sc_l_ends, rfl, rfl, rfl, by decide +kernel⟩
abbrev s_l_text : Stmt := topS 19
theorem sc_l_text : FnScope ["_law_value", "_law_left", "_law_one"] ["_law_value"] (defScope s_l_text) := ⟨rfl, rfl, rfl, by decide +kernel, rfl, by decide +kernel, by decide +kernel⟩
def c_l_text : Sc := { N := ["_law_value", "_law_left", "_law_one"], sc := defScope s_l_text, osc := defScope s_l_text, bn := ["repr", "isinstance", "str"], fns := ["_law_text"], frs := [], gcd := false, lam := false, lfns := [] }
theorem t_l_text {G : Gt} : Text G s_l_text ["_law_value", "_law_left", "_law_one"] ["_law_value"] c_l_text b_l_text := ⟨sc_l_text, rfl, rfl, rfl, by decide +kernel⟩
abbrev s_l_moved : Stmt := topS 20
theorem sc_l_moved : FnScope ["_law_value", "_law_olds", "_law_news", "_law_part", "_law_points", "_law_found", "_law_one", "_law_member", "_law_further", "_law_ends_here"] ["_law_value", "_law_olds", "_law_news"] (defScope s_l_moved) := ⟨rfl, rfl, rfl, by decide +kernel, rfl, by decide +kernel, by decide +kernel⟩
def c_l_moved : Sc := { N := ["_law_value", "_law_olds", "_law_news", "_law_part", "_law_points", "_law_found", "_law_one", "_law_member", "_law_further", "_law_ends_here"], sc := defScope s_l_moved, osc := defScope s_l_moved, bn := ["tuple", "sorted", "str", "list", "isinstance"], fns := ["_law_moved", "_law_ends", "_law_support"], frs := [], gcd := false, lam := true, lfns := ["_law_text"] }
theorem t_l_moved {G : Gt} : Text G s_l_moved ["_law_value", "_law_olds", "_law_news", "_law_part", "_law_points", "_law_found", "_law_one", "_law_member", "_law_further", "_law_ends_here"] ["_law_value", "_law_olds", "_law_news"] c_l_moved b_l_moved := ⟨sc_l_moved, rfl, rfl, rfl, by decide +kernel⟩
abbrev s_l_placed : Stmt := topS 22
theorem sc_l_placed : FnScope ["_law_value", "_law_points", "_law_further", "_law_one", "_law_olds", "_law_news"] ["_law_value", "_law_points"] (defScope s_l_placed) := ⟨rfl, rfl, rfl, by decide +kernel, rfl, by decide +kernel, by decide +kernel⟩
def c_l_placed : Sc := { N := ["_law_value", "_law_points", "_law_further", "_law_one", "_law_olds", "_law_news"], sc := defScope s_l_placed, osc := defScope s_l_placed, bn := ["list"], fns := ["_law_moved", "_law_ends", "_law_support"], frs := [], gcd := false, lam := false, lfns := [] }
theorem t_l_placed {G : Gt} : Text G s_l_placed ["_law_value", "_law_points", "_law_further", "_law_one", "_law_olds", "_law_news"] ["_law_value", "_law_points"] c_l_placed b_l_placed := ⟨sc_l_placed, rfl, rfl, rfl, by decide +kernel⟩
abbrev s_l_bundle : Stmt := topS 24
theorem sc_l_bundle : FnScope ["_law_member", "_law_others", "_law_point_here", "_law_rest", "_law_gap_here", "_law_one", "_law_here", "_law_away", "_law_known", "_law_found", "_law_olds", "_law_low", "_law_is_on", "_law_news", "_law_ends_here"] ["_law_member", "_law_others", "_law_point_here"] (defScope s_l_bundle) := ⟨rfl, rfl, rfl, by decide +kernel, rfl, by decide +kernel, by decide +kernel⟩
def c_l_bundle : Sc := { N := ["_law_member", "_law_others", "_law_point_here", "_law_rest", "_law_gap_here", "_law_one", "_law_here", "_law_away", "_law_known", "_law_found", "_law_olds", "_law_low", "_law_is_on", "_law_news", "_law_ends_here"], sc := defScope s_l_bundle, osc := defScope s_l_bundle, bn := ["range", "len", "int"], fns := ["_law_placed", "_law_moved", "_law_ascending", "_law_spread", "_law_gap", "_law_support"], frs := [], gcd := false, lam := false, lfns := [] }
theorem t_l_bundle {G : Gt} : Text G s_l_bundle ["_law_member", "_law_others", "_law_point_here", "_law_rest", "_law_gap_here", "_law_one", "_law_here", "_law_away", "_law_known", "_law_found", "_law_olds", "_law_low", "_law_is_on", "_law_news", "_law_ends_here"] ["_law_member", "_law_others", "_law_point_here"] c_l_bundle b_l_bundle := ⟨sc_l_bundle, rfl, rfl, rfl, by decide +kernel⟩
abbrev s_l_made : Stmt := topS 25
theorem sc_l_made : FnScope ["_law_points", "_law_values", "_law_told", "_law_value", "_law_there", "_law_point_here", "_law_others", "_law_one", "_law_member", "_law_fewer"] ["_law_points", "_law_values"] (defScope s_l_made) := ⟨rfl, rfl, rfl, by decide +kernel, rfl, by decide +kernel, by decide +kernel⟩
def c_l_made : Sc := { N := ["_law_points", "_law_values", "_law_told", "_law_value", "_law_there", "_law_point_here", "_law_others", "_law_one", "_law_member", "_law_fewer"], sc := defScope s_l_made, osc := defScope s_l_made, bn := ["tuple", "sorted", "str", "list", "all"], fns := ["_law_bundle", "_law_placed"], frs := [], gcd := false, lam := true, lfns := ["_law_text"] }
theorem t_l_made {G : Gt} : Text G s_l_made ["_law_points", "_law_values", "_law_told", "_law_value", "_law_there", "_law_point_here", "_law_others", "_law_one", "_law_member", "_law_fewer"] ["_law_points", "_law_values"] c_l_made b_l_made := ⟨sc_l_made, rfl, rfl, rfl, by decide +kernel⟩
abbrev s_l_draw_set : Stmt := topS 28
theorem sc_l_draw_set : FnScope ["_law_source", "_law_pool", "_law_deep", "_law_most", "_law_points", "_law_lap"] ["_law_source", "_law_pool", "_law_deep", "_law_most"] (defScope s_l_draw_set) := ⟨rfl, rfl, rfl, by decide +kernel, rfl, by decide +kernel, by decide +kernel⟩
def c_l_draw_set : Sc := { N := ["_law_source", "_law_pool", "_law_deep", "_law_most", "_law_points", "_law_lap"], sc := defScope s_l_draw_set, osc := defScope s_l_draw_set, bn := ["range", "len"], fns := ["_law_made", "_law_draw_value", "_law_pick", "_law_ascending"], frs := [], gcd := false, lam := false, lfns := [] }
theorem t_l_draw_set {G : Gt} : Text G s_l_draw_set ["_law_source", "_law_pool", "_law_deep", "_law_most", "_law_points", "_law_lap"] ["_law_source", "_law_pool", "_law_deep", "_law_most"] c_l_draw_set b_l_draw_set := ⟨sc_l_draw_set, rfl, rfl, rfl, by decide +kernel⟩
abbrev s_l_draw_value : Stmt := topS 27
theorem sc_l_draw_value : FnScope ["_law_source", "_law_pool", "_law_deep", "_law_road", "_law_lap"] ["_law_source", "_law_pool", "_law_deep"] (defScope s_l_draw_value) := ⟨rfl, rfl, rfl, by decide +kernel, rfl, by decide +kernel, by decide +kernel⟩
def c_l_draw_value : Sc := { N := ["_law_source", "_law_pool", "_law_deep", "_law_road", "_law_lap"], sc := defScope s_l_draw_value, osc := defScope s_l_draw_value, bn := ["tuple", "range", "len"], fns := ["_law_draw_set", "_law_draw_value", "_law_pick"], frs := [], gcd := false, lam := false, lfns := [] }
theorem t_l_draw_value {G : Gt} : Text G s_l_draw_value ["_law_source", "_law_pool", "_law_deep", "_law_road", "_law_lap"] ["_law_source", "_law_pool", "_law_deep"] c_l_draw_value b_l_draw_value := ⟨sc_l_draw_value, rfl, rfl, rfl, by decide +kernel⟩
abbrev s_is_before : Stmt := topS 1
theorem sc_is_before : FnScope ["one", "other"] ["one", "other"] (defScope s_is_before) := ⟨rfl, rfl, rfl, by decide +kernel, rfl, by decide +kernel, by decide +kernel⟩
def c_is_before : Sc := { N := ["one", "other"], sc := defScope s_is_before, osc := defScope s_is_before, bn := [], fns := [], frs := [], gcd := false, lam := false, lfns := [] }
theorem t_is_before {G : Gt} : Text G s_is_before ["one", "other"] ["one", "other"] c_is_before b_is_before := ⟨sc_is_before, rfl, rfl, rfl, by decide +kernel⟩
abbrev s_put_in : Stmt := topS 2
theorem sc_put_in : FnScope ["points", "point", "below", "one"] ["points", "point"] (defScope s_put_in) := ⟨rfl, rfl, rfl, by decide +kernel, rfl, by decide +kernel, by decide +kernel⟩
def c_put_in : Sc := { N := ["points", "point", "below", "one"], sc := defScope s_put_in, osc := defScope s_put_in, bn := ["len"], fns := ["is_before"], frs := [], gcd := false, lam := false, lfns := [] }
theorem t_put_in {G : Gt} : Text G s_put_in ["points", "point", "below", "one"] ["points", "point"] c_put_in b_put_in := ⟨sc_put_in, rfl, rfl, rfl, by decide +kernel⟩
abbrev s_put_together : Stmt := topS 3
theorem sc_put_together : FnScope ["rows", "found", "row", "point"] ["rows"] (defScope s_put_together) := ⟨rfl, rfl, rfl, by decide +kernel, rfl, by decide +kernel, by decide +kernel⟩
def c_put_together : Sc := { N := ["rows", "found", "row", "point"], sc := defScope s_put_together, osc := defScope s_put_together, bn := [], fns := ["put_in"], frs := [], gcd := false, lam := false, lfns := [] }
theorem t_put_together {G : Gt} : Text G s_put_together ["rows", "found", "row", "point"] ["rows"] c_put_together b_put_together := ⟨sc_put_together, rfl, rfl, rfl, by decide +kernel⟩
abbrev s_support : Stmt := topS 6
theorem sc_support : FnScope ["value", "found", "part"] ["value"] (defScope s_support) := ⟨rfl, rfl, rfl, by decide +kernel, rfl, by decide +kernel, by decide +kernel⟩
def c_support : Sc := { N := ["value", "found", "part"], sc := defScope s_support, osc := defScope s_support, bn := ["isinstance", "str"], fns := ["put_together", "support"], frs := [], gcd := false, lam := false, lfns := [] }
theorem t_support {G : Gt} : Text G s_support ["value", "found", "part"] ["value"] c_support b_support := ⟨sc_support, rfl, rfl, rfl, by decide +kernel⟩
abbrev s_gap_of : Stmt := topS 4
theorem sc_gap_of : FnScope ["points", "point", "one"] ["points", "point"] (defScope s_gap_of) := ⟨rfl, rfl, rfl, by decide +kernel, rfl, by decide +kernel, by decide +kernel⟩
def c_gap_of : Sc := { N := ["points", "point", "one"], sc := defScope s_gap_of, osc := defScope s_gap_of, bn := ["len"], fns := ["is_before"], frs := [], gcd := false, lam := false, lfns := [] }
theorem t_gap_of {G : Gt} : Text G s_gap_of ["points", "point", "one"] ["points", "point"] c_gap_of b_gap_of := ⟨sc_gap_of, rfl, rfl, rfl, by decide +kernel⟩
abbrev s_own_points : Stmt := topS 8
theorem sc_own_points : FnScope ["value", "points", "found", "gap", "point"] ["value", "points"] (defScope s_own_points) := ⟨rfl, rfl, rfl, by decide +kernel, rfl, by decide +kernel, by decide +kernel⟩
def c_own_points : Sc := { N := ["value", "points", "found", "gap", "point"], sc := defScope s_own_points, osc := defScope s_own_points, bn := ["range", "len"], fns := ["support", "gap_of"], frs := [], gcd := false, lam := false, lfns := [] }
theorem t_own_points {G : Gt} : Text G s_own_points ["value", "points", "found", "gap", "point"] ["value", "points"] c_own_points b_own_points := ⟨sc_own_points, rfl, rfl, rfl, by decide +kernel⟩
abbrev s_shape : Stmt := topS 9
theorem sc_shape : FnScope ["value", "points", "some"] ["value", "points"] (defScope s_shape) := ⟨rfl, rfl, rfl, by decide +kernel, rfl, by decide +kernel, by decide +kernel⟩
def c_shape : Sc := { N := ["value", "points", "some"], sc := defScope s_shape, osc := defScope s_shape, bn := ["tuple", "len"], fns := ["own_points"], frs := [], gcd := false, lam := false, lfns := [] }
theorem t_shape {G : Gt} : Text G s_shape ["value", "points", "some"] ["value", "points"] c_shape b_shape := ⟨sc_shape, rfl, rfl, rfl, by decide +kernel⟩
abbrev s_l_shape : Stmt := topS 23
theorem sc_l_shape : FnScope ["_law_value", "_law_points", "_law_further", "_law_one", "_law_gap_here"] ["_law_value", "_law_points"] (defScope s_l_shape) := ⟨rfl, rfl, rfl, by decide +kernel, rfl, by decide +kernel, by decide +kernel⟩
def c_l_shape : Sc := { N := ["_law_value", "_law_points", "_law_further", "_law_one", "_law_gap_here"], sc := defScope s_l_shape, osc := defScope s_l_shape, bn := ["tuple", "len", "range"], fns := ["_law_gap", "_law_support"], frs := [], gcd := false, lam := false, lfns := [] }
theorem t_l_shape {G : Gt} : Text G s_l_shape ["_law_value", "_law_points", "_law_further", "_law_one", "_law_gap_here"] ["_law_value", "_law_points"] c_l_shape b_l_shape := ⟨sc_l_shape, rfl, rfl, rfl, by decide +kernel⟩
abbrev s_law : Stmt := topS 29
theorem sc_law : FnScope ["_law_script", "_law_source", "_law_pool", "_law_lap", "_law_value", "_law_mine", "_law_one", "_law_points", "_law_found", "_law_support_here"] ["_law_script"] (defScope s_law) := ⟨rfl, rfl, rfl, by decide +kernel, rfl, by decide +kernel, by decide +kernel⟩
def c_law : Sc := { N := ["_law_script", "_law_source", "_law_pool", "_law_lap", "_law_value", "_law_mine", "_law_one", "_law_points", "_law_found", "_law_support_here"], sc := defScope s_law, osc := defScope s_law, bn := ["range", "list", "len", "sum", "isinstance", "int", "bool", "tuple"], fns := ["shape", "_law_placed", "_law_shape", "_law_support", "_law_ascending", "_law_draw_points", "_law_pick", "_law_draw_value", "_law_draw_set", "_law_open_cells"], frs := [], gcd := false, lam := false, lfns := [] }
theorem t_law {G : Gt} : Text G s_law ["_law_script", "_law_source", "_law_pool", "_law_lap", "_law_value", "_law_mine", "_law_one", "_law_points", "_law_found", "_law_support_here"] ["_law_script"] c_law b_law := ⟨sc_law, rfl, rfl, rfl, by decide +kernel⟩

end LawP

namespace LawP
open PySem PySem.Spec PyProof.Rows L2 L3
def G : Gt := fun x => List.lookup x [("_law_open_cells", ⟨1, 0, spOpen⟩), ("_law_pick", ⟨2, 0, spPick⟩), ("_law_point", ⟨2, 0, sp_point⟩), ("_law_draw_points", ⟨2, 0, sp_ldraw⟩), ("_law_less", ⟨2, 0, sp_less⟩), ("_law_ascending", ⟨1, 0, sp_asc⟩), ("_law_support", ⟨1, 0, sp_lsupp (8)⟩), ("_law_gap", ⟨2, 0, sp_lgap⟩), ("_law_spread", ⟨3, 0, sp_lspread⟩), ("_law_ends", ⟨3, 0, sp_lends⟩), ("_law_text", ⟨1, 0, sp_ltext (8)⟩), ("_law_moved", ⟨3, 0, sp_lmoved (8)⟩), ("_law_placed", ⟨2, 0, sp_lplaced 8⟩), ("_law_bundle", ⟨3, 0, sp_lbundle 8⟩), ("_law_made", ⟨2, 0, sp_lmade 8⟩), ("_law_draw_set", ⟨4, 0, sp_ldset (4)⟩), ("_law_draw_value", ⟨3, 0, sp_ldval (4)⟩), ("is_before", ⟨2, 0, sp_less⟩), ("put_in", ⟨2, 0, sp_put_in⟩), ("put_together", ⟨100, 0, sp_put_together⟩), ("support", ⟨1, 0, sp_supp (8)⟩), ("gap_of", ⟨2, 0, sp_gap_of⟩), ("own_points", ⟨2, 0, sp_own 8⟩), ("shape", ⟨2, 0, sp_shape 8⟩), ("_law_shape", ⟨2, 0, sp_lshape 8⟩)]
theorem G_l_open_cells : G "_law_open_cells" = some ⟨1, 0, spOpen⟩ := rfl
theorem G_l_pick : G "_law_pick" = some ⟨2, 0, spPick⟩ := rfl
theorem G_l_point : G "_law_point" = some ⟨2, 0, sp_point⟩ := rfl
theorem G_l_draw_points : G "_law_draw_points" = some ⟨2, 0, sp_ldraw⟩ := rfl
theorem G_l_less : G "_law_less" = some ⟨2, 0, sp_less⟩ := rfl
theorem G_l_ascending : G "_law_ascending" = some ⟨1, 0, sp_asc⟩ := rfl
theorem G_l_support : G "_law_support" = some ⟨1, 0, sp_lsupp (8)⟩ := rfl
theorem G_l_gap : G "_law_gap" = some ⟨2, 0, sp_lgap⟩ := rfl
theorem G_l_spread : G "_law_spread" = some ⟨3, 0, sp_lspread⟩ := rfl
theorem G_l_ends : G "_law_ends" = some ⟨3, 0, sp_lends⟩ := rfl
theorem G_l_text : G "_law_text" = some ⟨1, 0, sp_ltext (8)⟩ := rfl
theorem G_l_moved : G "_law_moved" = some ⟨3, 0, sp_lmoved (8)⟩ := rfl
theorem G_l_placed : G "_law_placed" = some ⟨2, 0, sp_lplaced 8⟩ := rfl
theorem G_l_bundle : G "_law_bundle" = some ⟨3, 0, sp_lbundle 8⟩ := rfl
theorem G_l_made : G "_law_made" = some ⟨2, 0, sp_lmade 8⟩ := rfl
theorem G_l_draw_set : G "_law_draw_set" = some ⟨4, 0, sp_ldset (4)⟩ := rfl
theorem G_l_draw_value : G "_law_draw_value" = some ⟨3, 0, sp_ldval (4)⟩ := rfl
theorem G_is_before : G "is_before" = some ⟨2, 0, sp_less⟩ := rfl
theorem G_put_in : G "put_in" = some ⟨2, 0, sp_put_in⟩ := rfl
theorem G_put_together : G "put_together" = some ⟨100, 0, sp_put_together⟩ := rfl
theorem G_support : G "support" = some ⟨1, 0, sp_supp (8)⟩ := rfl
theorem G_gap_of : G "gap_of" = some ⟨2, 0, sp_gap_of⟩ := rfl
theorem G_own_points : G "own_points" = some ⟨2, 0, sp_own 8⟩ := rfl
theorem G_shape : G "shape" = some ⟨2, 0, sp_shape 8⟩ := rfl
theorem G_l_shape : G "_law_shape" = some ⟨2, 0, sp_lshape 8⟩ := rfl
set_option maxHeartbeats 2000000 in
theorem all_mk {l : PySem.W.OpenLaw} {w : World} {K : PySem.W.Frag} {h : Heap} {mg : Str → Option Value} {fa f1 f2 f3 f4 f5 f6 f7 f8 f9 f10 f11 f12 f13 f14 f15 f16 f17 f18 f19 f20 f21 f22 f23 f24 f25 f26 : Addr} (X : K.In h) (Gn : h.Ns mainGlobals mg) (hfa : mg "law" = some (.ref fa))
    {od1 an1 od2 an2 od3 an3 od4 an4 od5 an5 od6 an6 od7 an7 od8 an8 od9 an9 od10 an10 od11 an11 od12 an12 od13 an13 od14 an14 od15 an15 od16 an16 od17 an17 od18 an18 od19 an19 od20 an20 od21 an21 od22 an22 od23 an23 od24 an24 od25 an25 od26 an26 : Option Addr} {sl1 sl2 sl3 sl4 sl5 sl6 sl7 sl8 sl9 sl10 sl11 sl12 sl13 sl14 sl15 sl16 sl17 sl18 sl19 sl20 sl21 sl22 sl23 sl24 sl25 sl26 : Array (Option Value)} {oc1 kV1 dc1 pm1 ct1 cd1 oc2 kV2 dc2 pm2 ct2 cd2 oc3 kV3 dc3 pm3 ct3 cd3 oc4 kV4 dc4 pm4 ct4 cd4 oc5 kV5 dc5 pm5 ct5 cd5 oc6 kV6 dc6 pm6 ct6 cd6 oc7 kV7 dc7 pm7 ct7 cd7 oc8 kV8 dc8 pm8 ct8 cd8 oc9 kV9 dc9 pm9 ct9 cd9 oc10 kV10 dc10 pm10 ct10 cd10 oc11 kV11 dc11 pm11 ct11 cd11 oc12 kV12 dc12 pm12 ct12 oc13 kV13 dc13 pm13 ct13 cd13 oc14 kV14 dc14 pm14 ct14 cd14 oc15 kV15 dc15 pm15 ct15 oc16 kV16 dc16 pm16 ct16 cd16 oc17 kV17 dc17 pm17 ct17 cd17 oc18 kV18 dc18 pm18 ct18 cd18 oc19 kV19 dc19 pm19 ct19 cd19 oc20 kV20 dc20 pm20 ct20 cd20 oc21 kV21 dc21 pm21 ct21 cd21 oc22 kV22 dc22 pm22 ct22 cd22 oc23 kV23 dc23 pm23 ct23 cd23 oc24 kV24 dc24 pm24 ct24 cd24 oc25 kV25 dc25 pm25 ct25 cd25 oc26 kV26 dc26 pm26 ct26 cd26 : Value} {cc12 P12 cc15 P15 : Addr}
    (a1 : PySem.W.nsIn K mainGlobals "_law_open_cells" = some (some (.ref f1))) (l1 : K.lookup f1 = some ⟨oc1, od1, .func (PySem.W.fnOf "_law_open_cells" "_law_open_cells" (defArgs s_open) (defBody s_open) (defScope s_open) .none kV1 dc1 pm1 an1 cd1 ct1), sl1⟩) (c1 : PySem.W.codeIn K cd1 "_law_open_cells" = true) (k1 : PySem.W.keepIn K (.ref f1) = true)
    (a2 : PySem.W.nsIn K mainGlobals "_law_pick" = some (some (.ref f2))) (l2 : K.lookup f2 = some ⟨oc2, od2, .func (PySem.W.fnOf "_law_pick" "_law_pick" (defArgs s_pick) (defBody s_pick) (defScope s_pick) .none kV2 dc2 pm2 an2 cd2 ct2), sl2⟩) (c2 : PySem.W.codeIn K cd2 "_law_pick" = true) (k2 : PySem.W.keepIn K (.ref f2) = true)
    (a3 : PySem.W.nsIn K mainGlobals "_law_point" = some (some (.ref f3))) (l3 : K.lookup f3 = some ⟨oc3, od3, .func (PySem.W.fnOf "_law_point" "_law_point" (defArgs s_l_point) (defBody s_l_point) (defScope s_l_point) .none kV3 dc3 pm3 an3 cd3 ct3), sl3⟩) (c3 : PySem.W.codeIn K cd3 "_law_point" = true) (k3 : PySem.W.keepIn K (.ref f3) = true)
    (a4 : PySem.W.nsIn K mainGlobals "_law_draw_points" = some (some (.ref f4))) (l4 : K.lookup f4 = some ⟨oc4, od4, .func (PySem.W.fnOf "_law_draw_points" "_law_draw_points" (defArgs s_l_draw_points) (defBody s_l_draw_points) (defScope s_l_draw_points) .none kV4 dc4 pm4 an4 cd4 ct4), sl4⟩) (c4 : PySem.W.codeIn K cd4 "_law_draw_points" = true) (k4 : PySem.W.keepIn K (.ref f4) = true)
    (a5 : PySem.W.nsIn K mainGlobals "_law_less" = some (some (.ref f5))) (l5 : K.lookup f5 = some ⟨oc5, od5, .func (PySem.W.fnOf "_law_less" "_law_less" (defArgs s_l_less) (defBody s_l_less) (defScope s_l_less) .none kV5 dc5 pm5 an5 cd5 ct5), sl5⟩) (c5 : PySem.W.codeIn K cd5 "_law_less" = true) (k5 : PySem.W.keepIn K (.ref f5) = true)
    (a6 : PySem.W.nsIn K mainGlobals "_law_ascending" = some (some (.ref f6))) (l6 : K.lookup f6 = some ⟨oc6, od6, .func (PySem.W.fnOf "_law_ascending" "_law_ascending" (defArgs s_l_ascending) (defBody s_l_ascending) (defScope s_l_ascending) .none kV6 dc6 pm6 an6 cd6 ct6), sl6⟩) (c6 : PySem.W.codeIn K cd6 "_law_ascending" = true) (k6 : PySem.W.keepIn K (.ref f6) = true)
    (a7 : PySem.W.nsIn K mainGlobals "_law_support" = some (some (.ref f7))) (l7 : K.lookup f7 = some ⟨oc7, od7, .func (PySem.W.fnOf "_law_support" "_law_support" (defArgs s_l_support) (defBody s_l_support) (defScope s_l_support) .none kV7 dc7 pm7 an7 cd7 ct7), sl7⟩) (c7 : PySem.W.codeIn K cd7 "_law_support" = true) (k7 : PySem.W.keepIn K (.ref f7) = true)
    (a8 : PySem.W.nsIn K mainGlobals "_law_gap" = some (some (.ref f8))) (l8 : K.lookup f8 = some ⟨oc8, od8, .func (PySem.W.fnOf "_law_gap" "_law_gap" (defArgs s_l_gap) (defBody s_l_gap) (defScope s_l_gap) .none kV8 dc8 pm8 an8 cd8 ct8), sl8⟩) (c8 : PySem.W.codeIn K cd8 "_law_gap" = true) (k8 : PySem.W.keepIn K (.ref f8) = true)
    (a9 : PySem.W.nsIn K mainGlobals "_law_spread" = some (some (.ref f9))) (l9 : K.lookup f9 = some ⟨oc9, od9, .func (PySem.W.fnOf "_law_spread" "_law_spread" (defArgs s_l_spread) (defBody s_l_spread) (defScope s_l_spread) .none kV9 dc9 pm9 an9 cd9 ct9), sl9⟩) (c9 : PySem.W.codeIn K cd9 "_law_spread" = true) (k9 : PySem.W.keepIn K (.ref f9) = true)
    (a10 : PySem.W.nsIn K mainGlobals "_law_ends" = some (some (.ref f10))) (l10 : K.lookup f10 = some ⟨oc10, od10, .func (PySem.W.fnOf "_law_ends" "_law_ends" (defArgs s_l_ends) (defBody s_l_ends) (defScope s_l_ends) .none kV10 dc10 pm10 an10 cd10 ct10), sl10⟩) (c10 : PySem.W.codeIn K cd10 "_law_ends" = true) (k10 : PySem.W.keepIn K (.ref f10) = true)
    (a11 : PySem.W.nsIn K mainGlobals "_law_text" = some (some (.ref f11))) (l11 : K.lookup f11 = some ⟨oc11, od11, .func (PySem.W.fnOf "_law_text" "_law_text" (defArgs s_l_text) (defBody s_l_text) (defScope s_l_text) .none kV11 dc11 pm11 an11 cd11 ct11), sl11⟩) (c11 : PySem.W.codeIn K cd11 "_law_text" = true) (k11 : PySem.W.keepIn K (.ref f11) = true)
    (a12 : PySem.W.nsIn K mainGlobals "_law_moved" = some (some (.ref f12))) (l12 : K.lookup f12 = some ⟨oc12, od12, .func (PySem.W.fnOf "_law_moved" "_law_moved" (defArgs s_l_moved) (defBody s_l_moved) (defScope s_l_moved) .none kV12 dc12 pm12 an12 (.ref cc12) ct12), sl12⟩) (c12 : PySem.W.codeIn K (.ref cc12) "_law_moved" = true) (k12 : PySem.W.keepIn K (.ref f12) = true)
    (a13 : PySem.W.nsIn K mainGlobals "_law_placed" = some (some (.ref f13))) (l13 : K.lookup f13 = some ⟨oc13, od13, .func (PySem.W.fnOf "_law_placed" "_law_placed" (defArgs s_l_placed) (defBody s_l_placed) (defScope s_l_placed) .none kV13 dc13 pm13 an13 cd13 ct13), sl13⟩) (c13 : PySem.W.codeIn K cd13 "_law_placed" = true) (k13 : PySem.W.keepIn K (.ref f13) = true)
    (a14 : PySem.W.nsIn K mainGlobals "_law_bundle" = some (some (.ref f14))) (l14 : K.lookup f14 = some ⟨oc14, od14, .func (PySem.W.fnOf "_law_bundle" "_law_bundle" (defArgs s_l_bundle) (defBody s_l_bundle) (defScope s_l_bundle) .none kV14 dc14 pm14 an14 cd14 ct14), sl14⟩) (c14 : PySem.W.codeIn K cd14 "_law_bundle" = true) (k14 : PySem.W.keepIn K (.ref f14) = true)
    (a15 : PySem.W.nsIn K mainGlobals "_law_made" = some (some (.ref f15))) (l15 : K.lookup f15 = some ⟨oc15, od15, .func (PySem.W.fnOf "_law_made" "_law_made" (defArgs s_l_made) (defBody s_l_made) (defScope s_l_made) .none kV15 dc15 pm15 an15 (.ref cc15) ct15), sl15⟩) (c15 : PySem.W.codeIn K (.ref cc15) "_law_made" = true) (k15 : PySem.W.keepIn K (.ref f15) = true)
    (a16 : PySem.W.nsIn K mainGlobals "_law_draw_set" = some (some (.ref f16))) (l16 : K.lookup f16 = some ⟨oc16, od16, .func (PySem.W.fnOf "_law_draw_set" "_law_draw_set" (defArgs s_l_draw_set) (defBody s_l_draw_set) (defScope s_l_draw_set) .none kV16 dc16 pm16 an16 cd16 ct16), sl16⟩) (c16 : PySem.W.codeIn K cd16 "_law_draw_set" = true) (k16 : PySem.W.keepIn K (.ref f16) = true)
    (a17 : PySem.W.nsIn K mainGlobals "_law_draw_value" = some (some (.ref f17))) (l17 : K.lookup f17 = some ⟨oc17, od17, .func (PySem.W.fnOf "_law_draw_value" "_law_draw_value" (defArgs s_l_draw_value) (defBody s_l_draw_value) (defScope s_l_draw_value) .none kV17 dc17 pm17 an17 cd17 ct17), sl17⟩) (c17 : PySem.W.codeIn K cd17 "_law_draw_value" = true) (k17 : PySem.W.keepIn K (.ref f17) = true)
    (a18 : PySem.W.nsIn K mainGlobals "is_before" = some (some (.ref f18))) (l18 : K.lookup f18 = some ⟨oc18, od18, .func (PySem.W.fnOf "is_before" "is_before" (defArgs s_is_before) (defBody s_is_before) (defScope s_is_before) .none kV18 dc18 pm18 an18 cd18 ct18), sl18⟩) (c18 : PySem.W.codeIn K cd18 "is_before" = true) (k18 : PySem.W.keepIn K (.ref f18) = true)
    (a19 : PySem.W.nsIn K mainGlobals "put_in" = some (some (.ref f19))) (l19 : K.lookup f19 = some ⟨oc19, od19, .func (PySem.W.fnOf "put_in" "put_in" (defArgs s_put_in) (defBody s_put_in) (defScope s_put_in) .none kV19 dc19 pm19 an19 cd19 ct19), sl19⟩) (c19 : PySem.W.codeIn K cd19 "put_in" = true) (k19 : PySem.W.keepIn K (.ref f19) = true)
    (a20 : PySem.W.nsIn K mainGlobals "put_together" = some (some (.ref f20))) (l20 : K.lookup f20 = some ⟨oc20, od20, .func (PySem.W.fnOf "put_together" "put_together" (defArgs s_put_together) (defBody s_put_together) (defScope s_put_together) .none kV20 dc20 pm20 an20 cd20 ct20), sl20⟩) (c20 : PySem.W.codeIn K cd20 "put_together" = true) (k20 : PySem.W.keepIn K (.ref f20) = true)
    (a21 : PySem.W.nsIn K mainGlobals "support" = some (some (.ref f21))) (l21 : K.lookup f21 = some ⟨oc21, od21, .func (PySem.W.fnOf "support" "support" (defArgs s_support) (defBody s_support) (defScope s_support) .none kV21 dc21 pm21 an21 cd21 ct21), sl21⟩) (c21 : PySem.W.codeIn K cd21 "support" = true) (k21 : PySem.W.keepIn K (.ref f21) = true)
    (a22 : PySem.W.nsIn K mainGlobals "gap_of" = some (some (.ref f22))) (l22 : K.lookup f22 = some ⟨oc22, od22, .func (PySem.W.fnOf "gap_of" "gap_of" (defArgs s_gap_of) (defBody s_gap_of) (defScope s_gap_of) .none kV22 dc22 pm22 an22 cd22 ct22), sl22⟩) (c22 : PySem.W.codeIn K cd22 "gap_of" = true) (k22 : PySem.W.keepIn K (.ref f22) = true)
    (a23 : PySem.W.nsIn K mainGlobals "own_points" = some (some (.ref f23))) (l23 : K.lookup f23 = some ⟨oc23, od23, .func (PySem.W.fnOf "own_points" "own_points" (defArgs s_own_points) (defBody s_own_points) (defScope s_own_points) .none kV23 dc23 pm23 an23 cd23 ct23), sl23⟩) (c23 : PySem.W.codeIn K cd23 "own_points" = true) (k23 : PySem.W.keepIn K (.ref f23) = true)
    (a24 : PySem.W.nsIn K mainGlobals "shape" = some (some (.ref f24))) (l24 : K.lookup f24 = some ⟨oc24, od24, .func (PySem.W.fnOf "shape" "shape" (defArgs s_shape) (defBody s_shape) (defScope s_shape) .none kV24 dc24 pm24 an24 cd24 ct24), sl24⟩) (c24 : PySem.W.codeIn K cd24 "shape" = true) (k24 : PySem.W.keepIn K (.ref f24) = true)
    (a25 : PySem.W.nsIn K mainGlobals "_law_shape" = some (some (.ref f25))) (l25 : K.lookup f25 = some ⟨oc25, od25, .func (PySem.W.fnOf "_law_shape" "_law_shape" (defArgs s_l_shape) (defBody s_l_shape) (defScope s_l_shape) .none kV25 dc25 pm25 an25 cd25 ct25), sl25⟩) (c25 : PySem.W.codeIn K cd25 "_law_shape" = true) (k25 : PySem.W.keepIn K (.ref f25) = true)
    (a26 : PySem.W.nsIn K mainGlobals "law" = some (some (.ref f26))) (l26 : K.lookup f26 = some ⟨oc26, od26, .func (PySem.W.fnOf "law" "law" (defArgs s_law) (defBody s_law) (defScope s_law) .none kV26 dc26 pm26 an26 cd26 ct26), sl26⟩) (c26 : PySem.W.codeIn K cd26 "law" = true) (k26 : PySem.W.keepIn K (.ref f26) = true)
    (q12 : PySem.W.codeHdIn K cc12 P12 = true) (u12 : K.lookup P12 = none)
    (q15 : PySem.W.codeHdIn K cc15 P15 = true) (u15 : K.lookup P15 = none)
    (n12_15 : (P12 == P15) = false)
    (hTb : ∀ P ∈ [P12, P15], h.get? P = some (PySem.W.tabObj #[]))
    (z1 : PySem.W.nsIn K mainGlobals "int" = some none)
    (z2 : PySem.W.nsIn K mainGlobals "abs" = some none)
    (z3 : PySem.W.nsIn K mainGlobals "range" = some none)
    (z4 : PySem.W.nsIn K mainGlobals "len" = some none)
    (z5 : PySem.W.nsIn K mainGlobals "list" = some none)
    (z6 : PySem.W.nsIn K mainGlobals "isinstance" = some none)
    (z7 : PySem.W.nsIn K mainGlobals "str" = some none)
    (z8 : PySem.W.nsIn K mainGlobals "repr" = some none)
    (z9 : PySem.W.nsIn K mainGlobals "tuple" = some none)
    (z10 : PySem.W.nsIn K mainGlobals "sorted" = some none)
    (z11 : PySem.W.nsIn K mainGlobals "all" = some none)
    (z12 : PySem.W.nsIn K mainGlobals "sum" = some none)
    (z13 : PySem.W.nsIn K mainGlobals "bool" = some none)
    : LawAtT l w K 32 "_law_script" mg fa h := by
  have e := hfa.symm.trans (PySem.W.mg_of X Gn a26)
  cases e
  have hs : SrcStays (ctx l.prog w K mg [(P12, ("_law_moved" : Str) ++ ".<locals>." ++ "<lambda>"), (P15, ("_law_made" : Str) ++ ".<locals>." ++ "<lambda>")]) := ctx_stays
  have hT : ∀ p ∈ ([(cc12, P12), (cc15, P15)] : List (Addr × Addr)), h.get? p.2 = some { cls := .none, data := .fields #[] } := (List.forall_mem_cons.mpr ⟨hTb P12 List.mem_cons_self, (List.forall_mem_cons.mpr ⟨hTb P15 (List.mem_cons_of_mem _ List.mem_cons_self), (fun _ h => (nomatch h))⟩)⟩)
  have nT : ∀ p ∈ ([(cc12, P12), (cc15, P15)] : List (Addr × Addr)), K.lookup p.2 = none := (List.forall_mem_cons.mpr ⟨u12, (List.forall_mem_cons.mpr ⟨u15, (fun _ h => (nomatch h))⟩)⟩)
  have hC : ∀ p ∈ ([(cc12, P12), (cc15, P15)] : List (Addr × Addr)), PySem.W.CodeHd h p.1 p.2 := (List.forall_mem_cons.mpr ⟨PySem.W.codeHd_of_K X q12, (List.forall_mem_cons.mpr ⟨PySem.W.codeHd_of_K X q15, (fun _ h => (nomatch h))⟩)⟩)
  have hTT : ∀ p ∈ ([(P12, ("_law_moved" : Str) ++ ".<locals>." ++ "<lambda>"), (P15, ("_law_made" : Str) ++ ".<locals>." ++ "<lambda>")] : List (Addr × Str)), ∃ q ∈ ([(cc12, P12), (cc15, P15)] : List (Addr × Addr)), q.2 = p.1 := (List.forall_mem_cons.mpr ⟨⟨(cc12, P12), List.mem_cons_self, rfl⟩, (List.forall_mem_cons.mpr ⟨⟨(cc15, P15), (List.mem_cons_of_mem _ List.mem_cons_self), rfl⟩, (fun _ h => (nomatch h))⟩)⟩)
  have F1 : Fun (ctx l.prog w K mg [(P12, ("_law_moved" : Str) ++ ".<locals>." ++ "<lambda>"), (P15, ("_law_made" : Str) ++ ".<locals>." ++ "<lambda>")]).K "_law_open_cells" "_law_open_cells" s_open f1 _ := fun_mk (st := s_open) l1 c1 k1
  have m1 : (ctx l.prog w K mg [(P12, ("_law_moved" : Str) ++ ".<locals>." ++ "<lambda>"), (P15, ("_law_made" : Str) ++ ".<locals>." ++ "<lambda>")]).mg "_law_open_cells" = some (.ref f1) := PySem.W.mg_of X Gn a1
  have b1 := F1.binds (ps := ["_law_script"]) fun _ _ _ _ _ _ us hl => match us, hl with | [_], _ => rfl
  have F2 : Fun (ctx l.prog w K mg [(P12, ("_law_moved" : Str) ++ ".<locals>." ++ "<lambda>"), (P15, ("_law_made" : Str) ++ ".<locals>." ++ "<lambda>")]).K "_law_pick" "_law_pick" s_pick f2 _ := fun_mk (st := s_pick) l2 c2 k2
  have m2 : (ctx l.prog w K mg [(P12, ("_law_moved" : Str) ++ ".<locals>." ++ "<lambda>"), (P15, ("_law_made" : Str) ++ ".<locals>." ++ "<lambda>")]).mg "_law_pick" = some (.ref f2) := PySem.W.mg_of X Gn a2
  have b2 := F2.binds (ps := ["_law_source", "_law_most"]) fun _ _ _ _ _ _ us hl => match us, hl with | [_, _], _ => rfl
  have F3 : Fun (ctx l.prog w K mg [(P12, ("_law_moved" : Str) ++ ".<locals>." ++ "<lambda>"), (P15, ("_law_made" : Str) ++ ".<locals>." ++ "<lambda>")]).K "_law_point" "_law_point" s_l_point f3 _ := fun_mk (st := s_l_point) l3 c3 k3
  have m3 : (ctx l.prog w K mg [(P12, ("_law_moved" : Str) ++ ".<locals>." ++ "<lambda>"), (P15, ("_law_made" : Str) ++ ".<locals>." ++ "<lambda>")]).mg "_law_point" = some (.ref f3) := PySem.W.mg_of X Gn a3
  have b3 := F3.binds (ps := ["_law_p", "_law_q"]) fun _ _ _ _ _ _ us hl => match us, hl with | [_, _], _ => rfl
  have F4 : Fun (ctx l.prog w K mg [(P12, ("_law_moved" : Str) ++ ".<locals>." ++ "<lambda>"), (P15, ("_law_made" : Str) ++ ".<locals>." ++ "<lambda>")]).K "_law_draw_points" "_law_draw_points" s_l_draw_points f4 _ := fun_mk (st := s_l_draw_points) l4 c4 k4
  have m4 : (ctx l.prog w K mg [(P12, ("_law_moved" : Str) ++ ".<locals>." ++ "<lambda>"), (P15, ("_law_made" : Str) ++ ".<locals>." ++ "<lambda>")]).mg "_law_draw_points" = some (.ref f4) := PySem.W.mg_of X Gn a4
  have b4 := F4.binds (ps := ["_law_source", "_law_many"]) fun _ _ _ _ _ _ us hl => match us, hl with | [_, _], _ => rfl
  have F5 : Fun (ctx l.prog w K mg [(P12, ("_law_moved" : Str) ++ ".<locals>." ++ "<lambda>"), (P15, ("_law_made" : Str) ++ ".<locals>." ++ "<lambda>")]).K "_law_less" "_law_less" s_l_less f5 _ := fun_mk (st := s_l_less) l5 c5 k5
  have m5 : (ctx l.prog w K mg [(P12, ("_law_moved" : Str) ++ ".<locals>." ++ "<lambda>"), (P15, ("_law_made" : Str) ++ ".<locals>." ++ "<lambda>")]).mg "_law_less" = some (.ref f5) := PySem.W.mg_of X Gn a5
  have b5 := F5.binds (ps := ["_law_one", "_law_other"]) fun _ _ _ _ _ _ us hl => match us, hl with | [_, _], _ => rfl
  have F6 : Fun (ctx l.prog w K mg [(P12, ("_law_moved" : Str) ++ ".<locals>." ++ "<lambda>"), (P15, ("_law_made" : Str) ++ ".<locals>." ++ "<lambda>")]).K "_law_ascending" "_law_ascending" s_l_ascending f6 _ := fun_mk (st := s_l_ascending) l6 c6 k6
  have m6 : (ctx l.prog w K mg [(P12, ("_law_moved" : Str) ++ ".<locals>." ++ "<lambda>"), (P15, ("_law_made" : Str) ++ ".<locals>." ++ "<lambda>")]).mg "_law_ascending" = some (.ref f6) := PySem.W.mg_of X Gn a6
  have b6 := F6.binds (ps := ["_law_some"]) fun _ _ _ _ _ _ us hl => match us, hl with | [_], _ => rfl
  have F7 : Fun (ctx l.prog w K mg [(P12, ("_law_moved" : Str) ++ ".<locals>." ++ "<lambda>"), (P15, ("_law_made" : Str) ++ ".<locals>." ++ "<lambda>")]).K "_law_support" "_law_support" s_l_support f7 _ := fun_mk (st := s_l_support) l7 c7 k7
  have m7 : (ctx l.prog w K mg [(P12, ("_law_moved" : Str) ++ ".<locals>." ++ "<lambda>"), (P15, ("_law_made" : Str) ++ ".<locals>." ++ "<lambda>")]).mg "_law_support" = some (.ref f7) := PySem.W.mg_of X Gn a7
  have b7 := F7.binds (ps := ["_law_value"]) fun _ _ _ _ _ _ us hl => match us, hl with | [_], _ => rfl
  have F8 : Fun (ctx l.prog w K mg [(P12, ("_law_moved" : Str) ++ ".<locals>." ++ "<lambda>"), (P15, ("_law_made" : Str) ++ ".<locals>." ++ "<lambda>")]).K "_law_gap" "_law_gap" s_l_gap f8 _ := fun_mk (st := s_l_gap) l8 c8 k8
  have m8 : (ctx l.prog w K mg [(P12, ("_law_moved" : Str) ++ ".<locals>." ++ "<lambda>"), (P15, ("_law_made" : Str) ++ ".<locals>." ++ "<lambda>")]).mg "_law_gap" = some (.ref f8) := PySem.W.mg_of X Gn a8
  have b8 := F8.binds (ps := ["_law_points", "_law_point_here"]) fun _ _ _ _ _ _ us hl => match us, hl with | [_, _], _ => rfl
  have F9 : Fun (ctx l.prog w K mg [(P12, ("_law_moved" : Str) ++ ".<locals>." ++ "<lambda>"), (P15, ("_law_made" : Str) ++ ".<locals>." ++ "<lambda>")]).K "_law_spread" "_law_spread" s_l_spread f9 _ := fun_mk (st := s_l_spread) l9 c9 k9
  have m9 : (ctx l.prog w K mg [(P12, ("_law_moved" : Str) ++ ".<locals>." ++ "<lambda>"), (P15, ("_law_made" : Str) ++ ".<locals>." ++ "<lambda>")]).mg "_law_spread" = some (.ref f9) := PySem.W.mg_of X Gn a9
  have b9 := F9.binds (ps := ["_law_points", "_law_gap_here", "_law_n"]) fun _ _ _ _ _ _ us hl => match us, hl with | [_, _, _], _ => rfl
  have F10 : Fun (ctx l.prog w K mg [(P12, ("_law_moved" : Str) ++ ".<locals>." ++ "<lambda>"), (P15, ("_law_made" : Str) ++ ".<locals>." ++ "<lambda>")]).K "_law_ends" "_law_ends" s_l_ends f10 _ := fun_mk (st := s_l_ends) l10 c10 k10
  have m10 : (ctx l.prog w K mg [(P12, ("_law_moved" : Str) ++ ".<locals>." ++ "<lambda>"), (P15, ("_law_made" : Str) ++ ".<locals>." ++ "<lambda>")]).mg "_law_ends" = some (.ref f10) := PySem.W.mg_of X Gn a10
  have b10 := F10.binds (ps := ["_law_olds", "_law_news", "_law_further"]) fun _ _ _ _ _ _ us hl => match us, hl with | [_, _, _], _ => rfl
  have F11 : Fun (ctx l.prog w K mg [(P12, ("_law_moved" : Str) ++ ".<locals>." ++ "<lambda>"), (P15, ("_law_made" : Str) ++ ".<locals>." ++ "<lambda>")]).K "_law_text" "_law_text" s_l_text f11 _ := fun_mk (st := s_l_text) l11 c11 k11
  have m11 : (ctx l.prog w K mg [(P12, ("_law_moved" : Str) ++ ".<locals>." ++ "<lambda>"), (P15, ("_law_made" : Str) ++ ".<locals>." ++ "<lambda>")]).mg "_law_text" = some (.ref f11) := PySem.W.mg_of X Gn a11
  have b11 := F11.binds (ps := ["_law_value"]) fun _ _ _ _ _ _ us hl => match us, hl with | [_], _ => rfl
  have F12 : Fun (ctx l.prog w K mg [(P12, ("_law_moved" : Str) ++ ".<locals>." ++ "<lambda>"), (P15, ("_law_made" : Str) ++ ".<locals>." ++ "<lambda>")]).K "_law_moved" "_law_moved" s_l_moved f12 _ := fun_mk (st := s_l_moved) l12 c12 k12
  have m12 : (ctx l.prog w K mg [(P12, ("_law_moved" : Str) ++ ".<locals>." ++ "<lambda>"), (P15, ("_law_made" : Str) ++ ".<locals>." ++ "<lambda>")]).mg "_law_moved" = some (.ref f12) := PySem.W.mg_of X Gn a12
  have b12 := F12.binds (ps := ["_law_value", "_law_olds", "_law_news"]) fun _ _ _ _ _ _ us hl => match us, hl with | [_, _, _], _ => rfl
  have F13 : Fun (ctx l.prog w K mg [(P12, ("_law_moved" : Str) ++ ".<locals>." ++ "<lambda>"), (P15, ("_law_made" : Str) ++ ".<locals>." ++ "<lambda>")]).K "_law_placed" "_law_placed" s_l_placed f13 _ := fun_mk (st := s_l_placed) l13 c13 k13
  have m13 : (ctx l.prog w K mg [(P12, ("_law_moved" : Str) ++ ".<locals>." ++ "<lambda>"), (P15, ("_law_made" : Str) ++ ".<locals>." ++ "<lambda>")]).mg "_law_placed" = some (.ref f13) := PySem.W.mg_of X Gn a13
  have b13 := F13.binds (ps := ["_law_value", "_law_points"]) fun _ _ _ _ _ _ us hl => match us, hl with | [_, _], _ => rfl
  have F14 : Fun (ctx l.prog w K mg [(P12, ("_law_moved" : Str) ++ ".<locals>." ++ "<lambda>"), (P15, ("_law_made" : Str) ++ ".<locals>." ++ "<lambda>")]).K "_law_bundle" "_law_bundle" s_l_bundle f14 _ := fun_mk (st := s_l_bundle) l14 c14 k14
  have m14 : (ctx l.prog w K mg [(P12, ("_law_moved" : Str) ++ ".<locals>." ++ "<lambda>"), (P15, ("_law_made" : Str) ++ ".<locals>." ++ "<lambda>")]).mg "_law_bundle" = some (.ref f14) := PySem.W.mg_of X Gn a14
  have b14 := F14.binds (ps := ["_law_member", "_law_others", "_law_point_here"]) fun _ _ _ _ _ _ us hl => match us, hl with | [_, _, _], _ => rfl
  have F15 : Fun (ctx l.prog w K mg [(P12, ("_law_moved" : Str) ++ ".<locals>." ++ "<lambda>"), (P15, ("_law_made" : Str) ++ ".<locals>." ++ "<lambda>")]).K "_law_made" "_law_made" s_l_made f15 _ := fun_mk (st := s_l_made) l15 c15 k15
  have m15 : (ctx l.prog w K mg [(P12, ("_law_moved" : Str) ++ ".<locals>." ++ "<lambda>"), (P15, ("_law_made" : Str) ++ ".<locals>." ++ "<lambda>")]).mg "_law_made" = some (.ref f15) := PySem.W.mg_of X Gn a15
  have b15 := F15.binds (ps := ["_law_points", "_law_values"]) fun _ _ _ _ _ _ us hl => match us, hl with | [_, _], _ => rfl
  have F16 : Fun (ctx l.prog w K mg [(P12, ("_law_moved" : Str) ++ ".<locals>." ++ "<lambda>"), (P15, ("_law_made" : Str) ++ ".<locals>." ++ "<lambda>")]).K "_law_draw_set" "_law_draw_set" s_l_draw_set f16 _ := fun_mk (st := s_l_draw_set) l16 c16 k16
  have m16 : (ctx l.prog w K mg [(P12, ("_law_moved" : Str) ++ ".<locals>." ++ "<lambda>"), (P15, ("_law_made" : Str) ++ ".<locals>." ++ "<lambda>")]).mg "_law_draw_set" = some (.ref f16) := PySem.W.mg_of X Gn a16
  have b16 := F16.binds (ps := ["_law_source", "_law_pool", "_law_deep", "_law_most"]) fun _ _ _ _ _ _ us hl => match us, hl with | [_, _, _, _], _ => rfl
  have F17 : Fun (ctx l.prog w K mg [(P12, ("_law_moved" : Str) ++ ".<locals>." ++ "<lambda>"), (P15, ("_law_made" : Str) ++ ".<locals>." ++ "<lambda>")]).K "_law_draw_value" "_law_draw_value" s_l_draw_value f17 _ := fun_mk (st := s_l_draw_value) l17 c17 k17
  have m17 : (ctx l.prog w K mg [(P12, ("_law_moved" : Str) ++ ".<locals>." ++ "<lambda>"), (P15, ("_law_made" : Str) ++ ".<locals>." ++ "<lambda>")]).mg "_law_draw_value" = some (.ref f17) := PySem.W.mg_of X Gn a17
  have b17 := F17.binds (ps := ["_law_source", "_law_pool", "_law_deep"]) fun _ _ _ _ _ _ us hl => match us, hl with | [_, _, _], _ => rfl
  have F18 : Fun (ctx l.prog w K mg [(P12, ("_law_moved" : Str) ++ ".<locals>." ++ "<lambda>"), (P15, ("_law_made" : Str) ++ ".<locals>." ++ "<lambda>")]).K "is_before" "is_before" s_is_before f18 _ := fun_mk (st := s_is_before) l18 c18 k18
  have m18 : (ctx l.prog w K mg [(P12, ("_law_moved" : Str) ++ ".<locals>." ++ "<lambda>"), (P15, ("_law_made" : Str) ++ ".<locals>." ++ "<lambda>")]).mg "is_before" = some (.ref f18) := PySem.W.mg_of X Gn a18
  have b18 := F18.binds (ps := ["one", "other"]) fun _ _ _ _ _ _ us hl => match us, hl with | [_, _], _ => rfl
  have F19 : Fun (ctx l.prog w K mg [(P12, ("_law_moved" : Str) ++ ".<locals>." ++ "<lambda>"), (P15, ("_law_made" : Str) ++ ".<locals>." ++ "<lambda>")]).K "put_in" "put_in" s_put_in f19 _ := fun_mk (st := s_put_in) l19 c19 k19
  have m19 : (ctx l.prog w K mg [(P12, ("_law_moved" : Str) ++ ".<locals>." ++ "<lambda>"), (P15, ("_law_made" : Str) ++ ".<locals>." ++ "<lambda>")]).mg "put_in" = some (.ref f19) := PySem.W.mg_of X Gn a19
  have b19 := F19.binds (ps := ["points", "point"]) fun _ _ _ _ _ _ us hl => match us, hl with | [_, _], _ => rfl
  have F20 : Fun (ctx l.prog w K mg [(P12, ("_law_moved" : Str) ++ ".<locals>." ++ "<lambda>"), (P15, ("_law_made" : Str) ++ ".<locals>." ++ "<lambda>")]).K "put_together" "put_together" s_put_together f20 _ := fun_mk (st := s_put_together) l20 c20 k20
  have m20 : (ctx l.prog w K mg [(P12, ("_law_moved" : Str) ++ ".<locals>." ++ "<lambda>"), (P15, ("_law_made" : Str) ++ ".<locals>." ++ "<lambda>")]).mg "put_together" = some (.ref f20) := PySem.W.mg_of X Gn a20
  have F21 : Fun (ctx l.prog w K mg [(P12, ("_law_moved" : Str) ++ ".<locals>." ++ "<lambda>"), (P15, ("_law_made" : Str) ++ ".<locals>." ++ "<lambda>")]).K "support" "support" s_support f21 _ := fun_mk (st := s_support) l21 c21 k21
  have m21 : (ctx l.prog w K mg [(P12, ("_law_moved" : Str) ++ ".<locals>." ++ "<lambda>"), (P15, ("_law_made" : Str) ++ ".<locals>." ++ "<lambda>")]).mg "support" = some (.ref f21) := PySem.W.mg_of X Gn a21
  have b21 := F21.binds (ps := ["value"]) fun _ _ _ _ _ _ us hl => match us, hl with | [_], _ => rfl
  have F22 : Fun (ctx l.prog w K mg [(P12, ("_law_moved" : Str) ++ ".<locals>." ++ "<lambda>"), (P15, ("_law_made" : Str) ++ ".<locals>." ++ "<lambda>")]).K "gap_of" "gap_of" s_gap_of f22 _ := fun_mk (st := s_gap_of) l22 c22 k22
  have m22 : (ctx l.prog w K mg [(P12, ("_law_moved" : Str) ++ ".<locals>." ++ "<lambda>"), (P15, ("_law_made" : Str) ++ ".<locals>." ++ "<lambda>")]).mg "gap_of" = some (.ref f22) := PySem.W.mg_of X Gn a22
  have b22 := F22.binds (ps := ["points", "point"]) fun _ _ _ _ _ _ us hl => match us, hl with | [_, _], _ => rfl
  have F23 : Fun (ctx l.prog w K mg [(P12, ("_law_moved" : Str) ++ ".<locals>." ++ "<lambda>"), (P15, ("_law_made" : Str) ++ ".<locals>." ++ "<lambda>")]).K "own_points" "own_points" s_own_points f23 _ := fun_mk (st := s_own_points) l23 c23 k23
  have m23 : (ctx l.prog w K mg [(P12, ("_law_moved" : Str) ++ ".<locals>." ++ "<lambda>"), (P15, ("_law_made" : Str) ++ ".<locals>." ++ "<lambda>")]).mg "own_points" = some (.ref f23) := PySem.W.mg_of X Gn a23
  have b23 := F23.binds (ps := ["value", "points"]) fun _ _ _ _ _ _ us hl => match us, hl with | [_, _], _ => rfl
  have F24 : Fun (ctx l.prog w K mg [(P12, ("_law_moved" : Str) ++ ".<locals>." ++ "<lambda>"), (P15, ("_law_made" : Str) ++ ".<locals>." ++ "<lambda>")]).K "shape" "shape" s_shape f24 _ := fun_mk (st := s_shape) l24 c24 k24
  have m24 : (ctx l.prog w K mg [(P12, ("_law_moved" : Str) ++ ".<locals>." ++ "<lambda>"), (P15, ("_law_made" : Str) ++ ".<locals>." ++ "<lambda>")]).mg "shape" = some (.ref f24) := PySem.W.mg_of X Gn a24
  have b24 := F24.binds (ps := ["value", "points"]) fun _ _ _ _ _ _ us hl => match us, hl with | [_, _], _ => rfl
  have F25 : Fun (ctx l.prog w K mg [(P12, ("_law_moved" : Str) ++ ".<locals>." ++ "<lambda>"), (P15, ("_law_made" : Str) ++ ".<locals>." ++ "<lambda>")]).K "_law_shape" "_law_shape" s_l_shape f25 _ := fun_mk (st := s_l_shape) l25 c25 k25
  have m25 : (ctx l.prog w K mg [(P12, ("_law_moved" : Str) ++ ".<locals>." ++ "<lambda>"), (P15, ("_law_made" : Str) ++ ".<locals>." ++ "<lambda>")]).mg "_law_shape" = some (.ref f25) := PySem.W.mg_of X Gn a25
  have b25 := F25.binds (ps := ["_law_value", "_law_points"]) fun _ _ _ _ _ _ us hl => match us, hl with | [_, _], _ => rfl
  have F26 : Fun (ctx l.prog w K mg [(P12, ("_law_moved" : Str) ++ ".<locals>." ++ "<lambda>"), (P15, ("_law_made" : Str) ++ ".<locals>." ++ "<lambda>")]).K "law" "law" s_law fa _ := fun_mk (st := s_law) l26 c26 k26
  have m26 : (ctx l.prog w K mg [(P12, ("_law_moved" : Str) ++ ".<locals>." ++ "<lambda>"), (P15, ("_law_made" : Str) ++ ".<locals>." ++ "<lambda>")]).mg "law" = some (.ref fa) := PySem.W.mg_of X Gn a26
  have b26 := F26.binds (ps := ["_law_script"]) fun _ _ _ _ _ _ us hl => match us, hl with | [_], _ => rfl
  have z1m : (ctx l.prog w K mg [(P12, ("_law_moved" : Str) ++ ".<locals>." ++ "<lambda>"), (P15, ("_law_made" : Str) ++ ".<locals>." ++ "<lambda>")]).mg "int" = none := PySem.W.mg_none_of X Gn z1
  have z2m : (ctx l.prog w K mg [(P12, ("_law_moved" : Str) ++ ".<locals>." ++ "<lambda>"), (P15, ("_law_made" : Str) ++ ".<locals>." ++ "<lambda>")]).mg "abs" = none := PySem.W.mg_none_of X Gn z2
  have z3m : (ctx l.prog w K mg [(P12, ("_law_moved" : Str) ++ ".<locals>." ++ "<lambda>"), (P15, ("_law_made" : Str) ++ ".<locals>." ++ "<lambda>")]).mg "range" = none := PySem.W.mg_none_of X Gn z3
  have z4m : (ctx l.prog w K mg [(P12, ("_law_moved" : Str) ++ ".<locals>." ++ "<lambda>"), (P15, ("_law_made" : Str) ++ ".<locals>." ++ "<lambda>")]).mg "len" = none := PySem.W.mg_none_of X Gn z4
  have z5m : (ctx l.prog w K mg [(P12, ("_law_moved" : Str) ++ ".<locals>." ++ "<lambda>"), (P15, ("_law_made" : Str) ++ ".<locals>." ++ "<lambda>")]).mg "list" = none := PySem.W.mg_none_of X Gn z5
  have z6m : (ctx l.prog w K mg [(P12, ("_law_moved" : Str) ++ ".<locals>." ++ "<lambda>"), (P15, ("_law_made" : Str) ++ ".<locals>." ++ "<lambda>")]).mg "isinstance" = none := PySem.W.mg_none_of X Gn z6
  have z7m : (ctx l.prog w K mg [(P12, ("_law_moved" : Str) ++ ".<locals>." ++ "<lambda>"), (P15, ("_law_made" : Str) ++ ".<locals>." ++ "<lambda>")]).mg "str" = none := PySem.W.mg_none_of X Gn z7
  have z8m : (ctx l.prog w K mg [(P12, ("_law_moved" : Str) ++ ".<locals>." ++ "<lambda>"), (P15, ("_law_made" : Str) ++ ".<locals>." ++ "<lambda>")]).mg "repr" = none := PySem.W.mg_none_of X Gn z8
  have z9m : (ctx l.prog w K mg [(P12, ("_law_moved" : Str) ++ ".<locals>." ++ "<lambda>"), (P15, ("_law_made" : Str) ++ ".<locals>." ++ "<lambda>")]).mg "tuple" = none := PySem.W.mg_none_of X Gn z9
  have z10m : (ctx l.prog w K mg [(P12, ("_law_moved" : Str) ++ ".<locals>." ++ "<lambda>"), (P15, ("_law_made" : Str) ++ ".<locals>." ++ "<lambda>")]).mg "sorted" = none := PySem.W.mg_none_of X Gn z10
  have z11m : (ctx l.prog w K mg [(P12, ("_law_moved" : Str) ++ ".<locals>." ++ "<lambda>"), (P15, ("_law_made" : Str) ++ ".<locals>." ++ "<lambda>")]).mg "all" = none := PySem.W.mg_none_of X Gn z11
  have z12m : (ctx l.prog w K mg [(P12, ("_law_moved" : Str) ++ ".<locals>." ++ "<lambda>"), (P15, ("_law_made" : Str) ++ ".<locals>." ++ "<lambda>")]).mg "sum" = none := PySem.W.mg_none_of X Gn z12
  have z13m : (ctx l.prog w K mg [(P12, ("_law_moved" : Str) ++ ".<locals>." ++ "<lambda>"), (P15, ("_law_made" : Str) ++ ".<locals>." ++ "<lambda>")]).mg "bool" = none := PySem.W.mg_none_of X Gn z13
  refine ⟨PySem.W.fnOf "law" "law" (defArgs s_law) (defBody s_law) (defScope s_law) .none kV26 dc26 pm26 an26 cd26 ct26, [(cc12, P12), (cc15, P15)], [(P12, ("_law_moved" : Str) ++ ".<locals>." ++ "<lambda>"), (P15, ("_law_made" : Str) ++ ".<locals>." ++ "<lambda>")], hT, nT, hC, hTT, fun s v => .of_eq rfl, fun base _ _ tb => ?_⟩
  have H1 : Has l.prog w base (ctx l.prog w K mg [(P12, ("_law_moved" : Str) ++ ".<locals>." ++ "<lambda>"), (P15, ("_law_made" : Str) ++ ".<locals>." ++ "<lambda>")]) G 1 "_law_open_cells" := .of_fn G_l_open_cells (by decide) m1 k1 b1 (open_has (ok_open0 F1 z2m z1m) rfl) (by decide +kernel)
  have H2 : Has l.prog w base (ctx l.prog w K mg [(P12, ("_law_moved" : Str) ++ ".<locals>." ++ "<lambda>"), (P15, ("_law_made" : Str) ++ ".<locals>." ++ "<lambda>")]) G 1 "_law_pick" := .of_fn G_l_pick (by decide) m2 k2 b2 (pick_has (ok_pick0 F2 z4m z1m) rfl) (by decide +kernel)
  have H3 : Has l.prog w base (ctx l.prog w K mg [(P12, ("_law_moved" : Str) ++ ".<locals>." ++ "<lambda>"), (P15, ("_law_made" : Str) ++ ".<locals>." ++ "<lambda>")]) G 1 "_law_point" := has_def (k := 0) hs t_l_point G_l_point (by rfl) (by decide) F3 b3 m3 (by decide +kernel) (List.forall_mem_cons.mpr ⟨z1m, (List.forall_mem_cons.mpr ⟨z2m, (fun _ h => (nomatch h))⟩)⟩) (fun _ h => (nomatch h)) (fun _ h => (nomatch h)) (fun h => absurd h (by decide)) (fun h => absurd h (by decide)) (fun h => absurd h (by decide)) (fun ds Q E _ h => ws_l_point ds Q E h)
  have H4 : Has l.prog w base (ctx l.prog w K mg [(P12, ("_law_moved" : Str) ++ ".<locals>." ++ "<lambda>"), (P15, ("_law_made" : Str) ++ ".<locals>." ++ "<lambda>")]) G 2 "_law_draw_points" := has_def (k := 1) hs t_l_draw_points G_l_draw_points (by rfl) (by decide) F4 b4 m4 (by decide +kernel) (List.forall_mem_cons.mpr ⟨z3m, (fun _ h => (nomatch h))⟩) (List.forall_mem_cons.mpr ⟨(H2.mono (by omega)).to (by rfl), (List.forall_mem_cons.mpr ⟨(H3.mono (by omega)).to (by rfl), (fun _ h => (nomatch h))⟩)⟩) (fun _ h => (nomatch h)) (fun h => absurd h (by decide)) (fun h => absurd h (by decide)) (fun h => absurd h (by decide)) (fun ds Q E _ h => ws_l_draw rfl rfl ds Q E h)
  have H5 : Has l.prog w base (ctx l.prog w K mg [(P12, ("_law_moved" : Str) ++ ".<locals>." ++ "<lambda>"), (P15, ("_law_made" : Str) ++ ".<locals>." ++ "<lambda>")]) G 1 "_law_less" := has_def (k := 0) hs t_l_less G_l_less (by rfl) (by decide) F5 b5 m5 (by decide +kernel) (fun _ h => (nomatch h)) (fun _ h => (nomatch h)) (fun _ h => (nomatch h)) (fun h => absurd h (by decide)) (fun h => absurd h (by decide)) (fun h => absurd h (by decide)) (fun ds Q E _ h => ws_l_less ds Q E h)
  have H6 : Has l.prog w base (ctx l.prog w K mg [(P12, ("_law_moved" : Str) ++ ".<locals>." ++ "<lambda>"), (P15, ("_law_made" : Str) ++ ".<locals>." ++ "<lambda>")]) G 2 "_law_ascending" := has_def (k := 1) hs t_l_ascending G_l_ascending (by rfl) (by decide) F6 b6 m6 (by decide +kernel) (List.forall_mem_cons.mpr ⟨z4m, (fun _ h => (nomatch h))⟩) (List.forall_mem_cons.mpr ⟨(H5.mono (by omega)).to (by rfl), (fun _ h => (nomatch h))⟩) (fun _ h => (nomatch h)) (fun h => absurd h (by decide)) (fun h => absurd h (by decide)) (fun h => absurd h (by decide)) (fun ds Q E _ h => ws_l_asc rfl ds Q E h)
  have R7 : ∀ d, d ≤ 8 → Has l.prog w base (ctx l.prog w K mg [(P12, ("_law_moved" : Str) ++ ".<locals>." ++ "<lambda>"), (P15, ("_law_made" : Str) ++ ".<locals>." ++ "<lambda>")]) (upG [("_law_support", ⟨1, 0, sp_lsupp (d)⟩)] G) (2 + d) "_law_support" := fun d => by
    induction d with
    | zero => exact fun _ => has_none (i := ⟨1, 0, sp_lsupp (0)⟩) rfl m7 k7 (by decide +kernel) (fun _ _ _ ⟨_, _, _, _, z, _⟩ => absurd z (Nat.not_lt_zero _))
    | succ d ih =>
      intro hd
      have ihd := ih (by omega)
      exact has_def2 (G' := (upG [("_law_support", ⟨1, 0, sp_lsupp (d)⟩)] G)) (k := 2 + d) (i := ⟨1, 0, sp_lsupp (d + 1)⟩) hs t_l_support rfl (by rfl) (show (1 : Nat) < 100 by decide) F7 b7 m7 (by decide +kernel) (List.forall_mem_cons.mpr ⟨z5m, (List.forall_mem_cons.mpr ⟨z6m, (List.forall_mem_cons.mpr ⟨z7m, (fun _ h => (nomatch h))⟩)⟩)⟩) (List.forall_mem_cons.mpr ⟨(H6.mono (by omega)).to (by rfl), (List.forall_mem_cons.mpr ⟨ihd, (fun _ h => (nomatch h))⟩)⟩) (fun _ h => (nomatch h)) (fun h => absurd h (by decide)) (fun h => absurd h (by decide)) (fun h => absurd h (by decide)) (fun ds Q E _ h => ws_l_supp rfl rfl ds Q E h)
  have H7 : Has l.prog w base (ctx l.prog w K mg [(P12, ("_law_moved" : Str) ++ ".<locals>." ++ "<lambda>"), (P15, ("_law_made" : Str) ++ ".<locals>." ++ "<lambda>")]) G 10 "_law_support" := (R7 8 (by decide)).to (by rfl)
  have H8 : Has l.prog w base (ctx l.prog w K mg [(P12, ("_law_moved" : Str) ++ ".<locals>." ++ "<lambda>"), (P15, ("_law_made" : Str) ++ ".<locals>." ++ "<lambda>")]) G 2 "_law_gap" := has_def (k := 1) hs t_l_gap G_l_gap (by rfl) (by decide) F8 b8 m8 (by decide +kernel) (List.forall_mem_cons.mpr ⟨z4m, (fun _ h => (nomatch h))⟩) (List.forall_mem_cons.mpr ⟨(H5.mono (by omega)).to (by rfl), (fun _ h => (nomatch h))⟩) (fun _ h => (nomatch h)) (fun h => absurd h (by decide)) (fun h => absurd h (by decide)) (fun h => absurd h (by decide)) (fun ds Q E _ h => ws_l_gap rfl ds Q E h)
  have H9 : Has l.prog w base (ctx l.prog w K mg [(P12, ("_law_moved" : Str) ++ ".<locals>." ++ "<lambda>"), (P15, ("_law_made" : Str) ++ ".<locals>." ++ "<lambda>")]) G 2 "_law_spread" := has_def (k := 1) hs t_l_spread G_l_spread (by rfl) (by decide) F9 b9 m9 (by decide +kernel) (List.forall_mem_cons.mpr ⟨z3m, (List.forall_mem_cons.mpr ⟨z4m, (fun _ h => (nomatch h))⟩)⟩) (List.forall_mem_cons.mpr ⟨(H3.mono (by omega)).to (by rfl), (fun _ h => (nomatch h))⟩) (fun _ h => (nomatch h)) (fun h => absurd h (by decide)) (fun h => absurd h (by decide)) (fun h => absurd h (by decide)) (fun ds Q E _ h => ws_l_spread rfl ds Q E h)
  have H10 : Has l.prog w base (ctx l.prog w K mg [(P12, ("_law_moved" : Str) ++ ".<locals>." ++ "<lambda>"), (P15, ("_law_made" : Str) ++ ".<locals>." ++ "<lambda>")]) G 3 "_law_ends" := has_def (k := 2) hs t_l_ends G_l_ends (by rfl) (by decide) F10 b10 m10 (by decide +kernel) (List.forall_mem_cons.mpr ⟨z3m, (List.forall_mem_cons.mpr ⟨z4m, (List.forall_mem_cons.mpr ⟨z5m, (fun _ h => (nomatch h))⟩)⟩)⟩) (List.forall_mem_cons.mpr ⟨(H6.mono (by omega)).to (by rfl), (List.forall_mem_cons.mpr ⟨(H9.mono (by omega)).to (by rfl), (List.forall_mem_cons.mpr ⟨(H8.mono (by omega)).to (by rfl), (fun _ h => (nomatch h))⟩)⟩)⟩) (fun _ h => (nomatch h)) (fun h => absurd h (by decide)) (fun h => absurd h (by decide)) (fun h => absurd h (by decide)) (fun ds Q E _ h => ws_l_ends rfl rfl rfl ds Q E h)
  have R11 : ∀ d, d ≤ 8 → Has l.prog w base (ctx l.prog w K mg [(P12, ("_law_moved" : Str) ++ ".<locals>." ++ "<lambda>"), (P15, ("_law_made" : Str) ++ ".<locals>." ++ "<lambda>")]) (upG [("_law_text", ⟨1, 0, sp_ltext (d)⟩)] G) (0 + d) "_law_text" := fun d => by
    induction d with
    | zero => exact fun _ => has_none (i := ⟨1, 0, sp_ltext (0)⟩) rfl m11 k11 (by decide +kernel) (fun _ _ _ ⟨_, _, _, _, _, _, _, z, _⟩ => absurd z (Nat.not_lt_zero _))
    | succ d ih =>
      intro hd
      have ihd := ih (by omega)
      exact has_def2 (G' := (upG [("_law_text", ⟨1, 0, sp_ltext (d)⟩)] G)) (k := 0 + d) (i := ⟨1, 0, sp_ltext (d + 1)⟩) hs t_l_text rfl (by rfl) (show (1 : Nat) < 100 by decide) F11 b11 m11 (by decide +kernel) (List.forall_mem_cons.mpr ⟨z8m, (List.forall_mem_cons.mpr ⟨z6m, (List.forall_mem_cons.mpr ⟨z7m, (fun _ h => (nomatch h))⟩)⟩)⟩) (List.forall_mem_cons.mpr ⟨ihd, (fun _ h => (nomatch h))⟩) (fun _ h => (nomatch h)) (fun h => absurd h (by decide)) (fun h => absurd h (by decide)) (fun h => absurd h (by decide)) (fun ds Q E _ h => ws_l_text rfl ds Q E h)
  have H11 : Has l.prog w base (ctx l.prog w K mg [(P12, ("_law_moved" : Str) ++ ".<locals>." ++ "<lambda>"), (P15, ("_law_made" : Str) ++ ".<locals>." ++ "<lambda>")]) G 8 "_law_text" := (R11 8 (by decide)).to (by rfl)
  have R12 : ∀ d, d ≤ 8 → Has l.prog w base (ctx l.prog w K mg [(P12, ("_law_moved" : Str) ++ ".<locals>." ++ "<lambda>"), (P15, ("_law_made" : Str) ++ ".<locals>." ++ "<lambda>")]) (upG [("_law_moved", ⟨3, 0, sp_lmoved (d)⟩)] G) (11 + d) "_law_moved" := fun d => by
    induction d with
    | zero => exact fun _ => has_none (i := ⟨3, 0, sp_lmoved (0)⟩) rfl m12 k12 (by decide +kernel) (fun _ _ _ ⟨_, _, _, _, _, _, _, _, _, _, _, _, z, _⟩ => absurd z (Nat.not_lt_zero _))
    | succ d ih =>
      intro hd
      have ihd := ih (by omega)
      exact has_def2 (G' := (upG [("_law_moved", ⟨3, 0, sp_lmoved (d)⟩)] G)) (k := 11 + d) (i := ⟨3, 0, sp_lmoved (d + 1)⟩) hs t_l_moved rfl (by rfl) (show (3 : Nat) < 100 by decide) F12 b12 m12 (by decide +kernel) (List.forall_mem_cons.mpr ⟨z9m, (List.forall_mem_cons.mpr ⟨z10m, (List.forall_mem_cons.mpr ⟨z7m, (List.forall_mem_cons.mpr ⟨z5m, (List.forall_mem_cons.mpr ⟨z6m, (fun _ h => (nomatch h))⟩)⟩)⟩)⟩)⟩) (List.forall_mem_cons.mpr ⟨ihd, (List.forall_mem_cons.mpr ⟨(H10.mono (by omega)).to (by rfl), (List.forall_mem_cons.mpr ⟨(H7.mono (by omega)).to (by rfl), (fun _ h => (nomatch h))⟩)⟩)⟩) (fun _ h => (nomatch h)) (fun h => absurd h (by decide)) (fun _ => ⟨8, by omega, (List.forall_mem_cons.mpr ⟨(H11.mono (by decide)).to (by rfl), (fun _ h => (nomatch h))⟩)⟩) (fun _ => lamAt_mk rfl (tb (cc12, P12) List.mem_cons_self) List.mem_cons_self (uniqT (List.forall_mem_cons.mpr ⟨(.inl rfl), (List.forall_mem_cons.mpr ⟨(.inr (neB n12_15)), (fun _ h => (nomatch h))⟩)⟩))) (fun ds Q E _ h => ws_l_moved (D := 8) (by omega) rfl rfl rfl rfl ds Q E h)
  have H12 : Has l.prog w base (ctx l.prog w K mg [(P12, ("_law_moved" : Str) ++ ".<locals>." ++ "<lambda>"), (P15, ("_law_made" : Str) ++ ".<locals>." ++ "<lambda>")]) G 19 "_law_moved" := (R12 8 (by decide)).to (by rfl)
  have H13 : Has l.prog w base (ctx l.prog w K mg [(P12, ("_law_moved" : Str) ++ ".<locals>." ++ "<lambda>"), (P15, ("_law_made" : Str) ++ ".<locals>." ++ "<lambda>")]) G 20 "_law_placed" := has_def (k := 19) hs t_l_placed G_l_placed (by rfl) (by decide) F13 b13 m13 (by decide +kernel) (List.forall_mem_cons.mpr ⟨z5m, (fun _ h => (nomatch h))⟩) (List.forall_mem_cons.mpr ⟨(H12.mono (by omega)).to (by rfl), (List.forall_mem_cons.mpr ⟨(H10.mono (by omega)).to (by rfl), (List.forall_mem_cons.mpr ⟨(H7.mono (by omega)).to (by rfl), (fun _ h => (nomatch h))⟩)⟩)⟩) (fun _ h => (nomatch h)) (fun h => absurd h (by decide)) (fun h => absurd h (by decide)) (fun h => absurd h (by decide)) (fun ds Q E _ h => ws_l_placed rfl rfl rfl ds Q E h)
  have H14 : Has l.prog w base (ctx l.prog w K mg [(P12, ("_law_moved" : Str) ++ ".<locals>." ++ "<lambda>"), (P15, ("_law_made" : Str) ++ ".<locals>." ++ "<lambda>")]) G 21 "_law_bundle" := has_def (k := 20) hs t_l_bundle G_l_bundle (by rfl) (by decide) F14 b14 m14 (by decide +kernel) (List.forall_mem_cons.mpr ⟨z3m, (List.forall_mem_cons.mpr ⟨z4m, (List.forall_mem_cons.mpr ⟨z1m, (fun _ h => (nomatch h))⟩)⟩)⟩) (List.forall_mem_cons.mpr ⟨(H13.mono (by omega)).to (by rfl), (List.forall_mem_cons.mpr ⟨(H12.mono (by omega)).to (by rfl), (List.forall_mem_cons.mpr ⟨(H6.mono (by omega)).to (by rfl), (List.forall_mem_cons.mpr ⟨(H9.mono (by omega)).to (by rfl), (List.forall_mem_cons.mpr ⟨(H8.mono (by omega)).to (by rfl), (List.forall_mem_cons.mpr ⟨(H7.mono (by omega)).to (by rfl), (fun _ h => (nomatch h))⟩)⟩)⟩)⟩)⟩)⟩) (fun _ h => (nomatch h)) (fun h => absurd h (by decide)) (fun h => absurd h (by decide)) (fun h => absurd h (by decide)) (fun ds Q E _ h => ws_l_bundle rfl rfl rfl rfl rfl rfl ds Q E h)
  have H15 : Has l.prog w base (ctx l.prog w K mg [(P12, ("_law_moved" : Str) ++ ".<locals>." ++ "<lambda>"), (P15, ("_law_made" : Str) ++ ".<locals>." ++ "<lambda>")]) G 22 "_law_made" := has_def (k := 21) hs t_l_made G_l_made (by rfl) (by decide) F15 b15 m15 (by decide +kernel) (List.forall_mem_cons.mpr ⟨z9m, (List.forall_mem_cons.mpr ⟨z10m, (List.forall_mem_cons.mpr ⟨z7m, (List.forall_mem_cons.mpr ⟨z5m, (List.forall_mem_cons.mpr ⟨z11m, (fun _ h => (nomatch h))⟩)⟩)⟩)⟩)⟩) (List.forall_mem_cons.mpr ⟨(H14.mono (by omega)).to (by rfl), (List.forall_mem_cons.mpr ⟨(H13.mono (by omega)).to (by rfl), (fun _ h => (nomatch h))⟩)⟩) (fun _ h => (nomatch h)) (fun h => absurd h (by decide)) (fun _ => ⟨8, by omega, (List.forall_mem_cons.mpr ⟨(H11.mono (by decide)).to (by rfl), (fun _ h => (nomatch h))⟩)⟩) (fun _ => lamAt_mk rfl (tb (cc15, P15) (List.mem_cons_of_mem _ List.mem_cons_self)) (List.mem_cons_of_mem _ List.mem_cons_self) (uniqT (List.forall_mem_cons.mpr ⟨(.inr (neA n12_15)), (List.forall_mem_cons.mpr ⟨(.inl rfl), (fun _ h => (nomatch h))⟩)⟩))) (fun ds Q E _ h => ws_l_made rfl rfl rfl ds Q E h)
  have R17 : ∀ d, d ≤ 4 → Has l.prog w base (ctx l.prog w K mg [(P12, ("_law_moved" : Str) ++ ".<locals>." ++ "<lambda>"), (P15, ("_law_made" : Str) ++ ".<locals>." ++ "<lambda>")]) (upG [("_law_draw_value", ⟨3, 0, sp_ldval (d)⟩), ("_law_draw_set", ⟨4, 0, sp_ldset (d)⟩)] G) (22 + 2 * d) "_law_draw_value" ∧ Has l.prog w base (ctx l.prog w K mg [(P12, ("_law_moved" : Str) ++ ".<locals>." ++ "<lambda>"), (P15, ("_law_made" : Str) ++ ".<locals>." ++ "<lambda>")]) (upG [("_law_draw_value", ⟨3, 0, sp_ldval (d)⟩), ("_law_draw_set", ⟨4, 0, sp_ldset (d)⟩)] G) (22 + 2 * d + 1) "_law_draw_set" := fun d => by
    induction d with
    | zero => exact fun _ => ⟨has_none (i := ⟨3, 0, sp_ldval (0)⟩) rfl m17 k17 (by decide +kernel) (fun _ _ _ ⟨_, _, _, _, _, _, z, _⟩ => absurd z (Nat.not_lt_zero _)), has_none (i := ⟨4, 0, sp_ldset (0)⟩) rfl m16 k16 (by decide +kernel) (fun _ _ _ ⟨_, _, _, _, _, _, _, z, _⟩ => absurd z (Nat.not_lt_zero _))⟩
    | succ d ih =>
      intro hd
      have ihd := ih (by omega)
      have A : Has l.prog w base (ctx l.prog w K mg [(P12, ("_law_moved" : Str) ++ ".<locals>." ++ "<lambda>"), (P15, ("_law_made" : Str) ++ ".<locals>." ++ "<lambda>")]) (upG [("_law_draw_value", ⟨3, 0, sp_ldval (d + 1)⟩), ("_law_draw_set", ⟨4, 0, sp_ldset (d + 1)⟩)] G) (22 + 2 * d + 1 + 1) "_law_draw_value" := has_def2 (G' := (upG [("_law_draw_value", ⟨3, 0, sp_ldval (d)⟩), ("_law_draw_set", ⟨4, 0, sp_ldset (d)⟩)] G)) (k := 22 + 2 * d + 1) (i := ⟨3, 0, sp_ldval (d + 1)⟩) hs t_l_draw_value rfl (by rfl) (show (3 : Nat) < 100 by decide) F17 b17 m17 (by decide +kernel) (List.forall_mem_cons.mpr ⟨z9m, (List.forall_mem_cons.mpr ⟨z3m, (List.forall_mem_cons.mpr ⟨z4m, (fun _ h => (nomatch h))⟩)⟩)⟩) (List.forall_mem_cons.mpr ⟨ihd.2, (List.forall_mem_cons.mpr ⟨ihd.1.mono (by omega), (List.forall_mem_cons.mpr ⟨(H2.mono (by omega)).to (by rfl), (fun _ h => (nomatch h))⟩)⟩)⟩) (fun _ h => (nomatch h)) (fun h => absurd h (by decide)) (fun h => absurd h (by decide)) (fun h => absurd h (by decide)) (fun ds Q E _ h => ws_l_dval (D := 8) (by omega) rfl rfl rfl ds Q E h)
      exact ⟨A, has_def2 (G' := (upG [("_law_draw_value", ⟨3, 0, sp_ldval (d + 1)⟩), ("_law_draw_set", ⟨4, 0, sp_ldset (d + 1)⟩)] G)) (k := 22 + 2 * d + 1 + 1) (i := ⟨4, 0, sp_ldset (d + 1)⟩) hs t_l_draw_set rfl (by rfl) (show (4 : Nat) < 100 by decide) F16 b16 m16 (by decide +kernel) (List.forall_mem_cons.mpr ⟨z3m, (List.forall_mem_cons.mpr ⟨z4m, (fun _ h => (nomatch h))⟩)⟩) (List.forall_mem_cons.mpr ⟨(H15.mono (by omega)).to (by rfl), (List.forall_mem_cons.mpr ⟨A, (List.forall_mem_cons.mpr ⟨(H2.mono (by omega)).to (by rfl), (List.forall_mem_cons.mpr ⟨(H6.mono (by omega)).to (by rfl), (fun _ h => (nomatch h))⟩)⟩)⟩)⟩) (fun _ h => (nomatch h)) (fun h => absurd h (by decide)) (fun h => absurd h (by decide)) (fun h => absurd h (by decide)) (fun ds Q E _ h => ws_l_dset (D := 8) (by omega) (by decide) rfl rfl rfl rfl ds Q E h)⟩
  have H17 : Has l.prog w base (ctx l.prog w K mg [(P12, ("_law_moved" : Str) ++ ".<locals>." ++ "<lambda>"), (P15, ("_law_made" : Str) ++ ".<locals>." ++ "<lambda>")]) G 30 "_law_draw_value" := (R17 4 (by decide)).1.to (by rfl)
  have H16 : Has l.prog w base (ctx l.prog w K mg [(P12, ("_law_moved" : Str) ++ ".<locals>." ++ "<lambda>"), (P15, ("_law_made" : Str) ++ ".<locals>." ++ "<lambda>")]) G 31 "_law_draw_set" := (R17 4 (by decide)).2.to (by rfl)
  have H18 : Has l.prog w base (ctx l.prog w K mg [(P12, ("_law_moved" : Str) ++ ".<locals>." ++ "<lambda>"), (P15, ("_law_made" : Str) ++ ".<locals>." ++ "<lambda>")]) G 1 "is_before" := has_def (k := 0) hs t_is_before G_is_before (by rfl) (by decide) F18 b18 m18 (by decide +kernel) (fun _ h => (nomatch h)) (fun _ h => (nomatch h)) (fun _ h => (nomatch h)) (fun h => absurd h (by decide)) (fun h => absurd h (by decide)) (fun h => absurd h (by decide)) (fun ds Q E _ h => ws_before ds Q E h)
  have H19 : Has l.prog w base (ctx l.prog w K mg [(P12, ("_law_moved" : Str) ++ ".<locals>." ++ "<lambda>"), (P15, ("_law_made" : Str) ++ ".<locals>." ++ "<lambda>")]) G 2 "put_in" := has_def (k := 1) hs t_put_in G_put_in (by rfl) (by decide) F19 b19 m19 (by decide +kernel) (List.forall_mem_cons.mpr ⟨z4m, (fun _ h => (nomatch h))⟩) (List.forall_mem_cons.mpr ⟨(H18.mono (by omega)).to (by rfl), (fun _ h => (nomatch h))⟩) (fun _ h => (nomatch h)) (fun h => absurd h (by decide)) (fun h => absurd h (by decide)) (fun h => absurd h (by decide)) (fun ds Q E _ h => ws_put_in rfl ds Q E h)
  have H20 : Has l.prog w base (ctx l.prog w K mg [(P12, ("_law_moved" : Str) ++ ".<locals>." ++ "<lambda>"), (P15, ("_law_made" : Str) ++ ".<locals>." ++ "<lambda>")]) G 3 "put_together" := has_defS (k := 2) (ps := []) (pv := "rows") (m := 0) hs t_put_together G_put_together (by rfl) F20 (fun us rest hl => match us, hl with | [], _ => star0 (st := s_put_together) (pv := "rows") rfl rfl rfl rfl rfl rfl rest) m20 (by decide +kernel) (fun _ h => (nomatch h)) (List.forall_mem_cons.mpr ⟨(H19.mono (by omega)).to (by rfl), (fun _ h => (nomatch h))⟩) (fun _ h => (nomatch h)) (fun h => absurd h (by decide)) (fun h => absurd h (by decide)) (fun h => absurd h (by decide)) (fun ds Q E _ h => ws_put_together rfl ds Q E h)
  have R21 : ∀ d, d ≤ 8 → Has l.prog w base (ctx l.prog w K mg [(P12, ("_law_moved" : Str) ++ ".<locals>." ++ "<lambda>"), (P15, ("_law_made" : Str) ++ ".<locals>." ++ "<lambda>")]) (upG [("support", ⟨1, 0, sp_supp (d)⟩)] G) (3 + d) "support" := fun d => by
    induction d with
    | zero => exact fun _ => has_none (i := ⟨1, 0, sp_supp (0)⟩) rfl m21 k21 (by decide +kernel) (fun _ _ _ ⟨_, _, _, _, _, z, _⟩ => absurd z (Nat.not_lt_zero _))
    | succ d ih =>
      intro hd
      have ihd := ih (by omega)
      exact has_def2 (G' := (upG [("support", ⟨1, 0, sp_supp (d)⟩)] G)) (k := 3 + d) (i := ⟨1, 0, sp_supp (d + 1)⟩) hs t_support rfl (by rfl) (show (1 : Nat) < 100 by decide) F21 b21 m21 (by decide +kernel) (List.forall_mem_cons.mpr ⟨z6m, (List.forall_mem_cons.mpr ⟨z7m, (fun _ h => (nomatch h))⟩)⟩) (List.forall_mem_cons.mpr ⟨(H20.mono (by omega)).to (by rfl), (List.forall_mem_cons.mpr ⟨ihd, (fun _ h => (nomatch h))⟩)⟩) (fun _ h => (nomatch h)) (fun h => absurd h (by decide)) (fun h => absurd h (by decide)) (fun h => absurd h (by decide)) (fun ds Q E _ h => ws_supp rfl rfl ds Q E h)
  have H21 : Has l.prog w base (ctx l.prog w K mg [(P12, ("_law_moved" : Str) ++ ".<locals>." ++ "<lambda>"), (P15, ("_law_made" : Str) ++ ".<locals>." ++ "<lambda>")]) G 11 "support" := (R21 8 (by decide)).to (by rfl)
  have H22 : Has l.prog w base (ctx l.prog w K mg [(P12, ("_law_moved" : Str) ++ ".<locals>." ++ "<lambda>"), (P15, ("_law_made" : Str) ++ ".<locals>." ++ "<lambda>")]) G 2 "gap_of" := has_def (k := 1) hs t_gap_of G_gap_of (by rfl) (by decide) F22 b22 m22 (by decide +kernel) (List.forall_mem_cons.mpr ⟨z4m, (fun _ h => (nomatch h))⟩) (List.forall_mem_cons.mpr ⟨(H18.mono (by omega)).to (by rfl), (fun _ h => (nomatch h))⟩) (fun _ h => (nomatch h)) (fun h => absurd h (by decide)) (fun h => absurd h (by decide)) (fun h => absurd h (by decide)) (fun ds Q E _ h => ws_gap_of rfl ds Q E h)
  have H23 : Has l.prog w base (ctx l.prog w K mg [(P12, ("_law_moved" : Str) ++ ".<locals>." ++ "<lambda>"), (P15, ("_law_made" : Str) ++ ".<locals>." ++ "<lambda>")]) G 12 "own_points" := has_def (k := 11) hs t_own_points G_own_points (by rfl) (by decide) F23 b23 m23 (by decide +kernel) (List.forall_mem_cons.mpr ⟨z3m, (List.forall_mem_cons.mpr ⟨z4m, (fun _ h => (nomatch h))⟩)⟩) (List.forall_mem_cons.mpr ⟨(H21.mono (by omega)).to (by rfl), (List.forall_mem_cons.mpr ⟨(H22.mono (by omega)).to (by rfl), (fun _ h => (nomatch h))⟩)⟩) (fun _ h => (nomatch h)) (fun h => absurd h (by decide)) (fun h => absurd h (by decide)) (fun h => absurd h (by decide)) (fun ds Q E _ h => ws_own rfl rfl ds Q E h)
  have H24 : Has l.prog w base (ctx l.prog w K mg [(P12, ("_law_moved" : Str) ++ ".<locals>." ++ "<lambda>"), (P15, ("_law_made" : Str) ++ ".<locals>." ++ "<lambda>")]) G 13 "shape" := has_def (k := 12) hs t_shape G_shape (by rfl) (by decide) F24 b24 m24 (by decide +kernel) (List.forall_mem_cons.mpr ⟨z9m, (List.forall_mem_cons.mpr ⟨z4m, (fun _ h => (nomatch h))⟩)⟩) (List.forall_mem_cons.mpr ⟨(H23.mono (by omega)).to (by rfl), (fun _ h => (nomatch h))⟩) (fun _ h => (nomatch h)) (fun h => absurd h (by decide)) (fun h => absurd h (by decide)) (fun h => absurd h (by decide)) (fun ds Q E _ h => ws_shape rfl ds Q E h)
  have H25 : Has l.prog w base (ctx l.prog w K mg [(P12, ("_law_moved" : Str) ++ ".<locals>." ++ "<lambda>"), (P15, ("_law_made" : Str) ++ ".<locals>." ++ "<lambda>")]) G 11 "_law_shape" := has_def (k := 10) hs t_l_shape G_l_shape (by rfl) (by decide) F25 b25 m25 (by decide +kernel) (List.forall_mem_cons.mpr ⟨z9m, (List.forall_mem_cons.mpr ⟨z4m, (List.forall_mem_cons.mpr ⟨z3m, (fun _ h => (nomatch h))⟩)⟩)⟩) (List.forall_mem_cons.mpr ⟨(H8.mono (by omega)).to (by rfl), (List.forall_mem_cons.mpr ⟨(H7.mono (by omega)).to (by rfl), (fun _ h => (nomatch h))⟩)⟩) (fun _ h => (nomatch h)) (fun h => absurd h (by decide)) (fun h => absurd h (by decide)) (fun h => absurd h (by decide)) (fun ds Q E _ h => ws_lshape rfl rfl ds Q E h)
  exact fnG_def (k := 31) (x := "law") (i := ⟨1, 0, spLaw⟩) hs t_law (by rfl) F26 (List.forall_mem_cons.mpr ⟨z3m, (List.forall_mem_cons.mpr ⟨z5m, (List.forall_mem_cons.mpr ⟨z4m, (List.forall_mem_cons.mpr ⟨z12m, (List.forall_mem_cons.mpr ⟨z6m, (List.forall_mem_cons.mpr ⟨z1m, (List.forall_mem_cons.mpr ⟨z13m, (List.forall_mem_cons.mpr ⟨z9m, (fun _ h => (nomatch h))⟩)⟩)⟩)⟩)⟩)⟩)⟩)⟩) (List.forall_mem_cons.mpr ⟨(H24.mono (by omega)).to (by rfl), (List.forall_mem_cons.mpr ⟨(H13.mono (by omega)).to (by rfl), (List.forall_mem_cons.mpr ⟨(H25.mono (by omega)).to (by rfl), (List.forall_mem_cons.mpr ⟨(H7.mono (by omega)).to (by rfl), (List.forall_mem_cons.mpr ⟨(H6.mono (by omega)).to (by rfl), (List.forall_mem_cons.mpr ⟨(H4.mono (by omega)).to (by rfl), (List.forall_mem_cons.mpr ⟨(H2.mono (by omega)).to (by rfl), (List.forall_mem_cons.mpr ⟨(H17.mono (by omega)).to (by rfl), (List.forall_mem_cons.mpr ⟨(H16.mono (by omega)).to (by rfl), (List.forall_mem_cons.mpr ⟨(H1.mono (by omega)).to (by rfl), (fun _ h => (nomatch h))⟩)⟩)⟩)⟩)⟩)⟩)⟩)⟩)⟩)⟩) (fun _ h => (nomatch h)) (fun h => absurd h (by decide)) (fun h => absurd h (by decide)) (fun h => absurd h (by decide)) (fun ds Q E _ h => ws_law ⟨rfl, rfl, rfl, rfl, rfl, rfl, rfl, rfl, rfl, rfl⟩ ds Q E h)
end LawP

open PySem PySem.W PyProof.Rows
set_option maxHeartbeats 0 in
theorem PySem.Challenge.cw_gapwise_k10_shapes_holds : PySem.Challenge.rw_gapwise_k10_shapes.Holds := by
  w_on; o_law; k_head; (case hw => w_witness2); k_fill
  refine L3.walk_L3T (l := PySem.Challenge.rw_gapwise_k10_shapes) (k := 32) (x := "_law_script") rfl rfl ⟨rfl, by decide, by decide⟩ (fun w h Y => PySem.W.km_in_of Y) ?F
  case F =>
    intro w mg fa h Y KX G hmg
    refine' LawP.all_mk (P12 := 108) (P15 := 133) KX G hmg ?a1 ?l1 ?c1 ?k1 ?a2 ?l2 ?c2 ?k2 ?a3 ?l3 ?c3 ?k3 ?a4 ?l4 ?c4 ?k4 ?a5 ?l5 ?c5 ?k5 ?a6 ?l6 ?c6 ?k6 ?a7 ?l7 ?c7 ?k7 ?a8 ?l8 ?c8 ?k8 ?a9 ?l9 ?c9 ?k9 ?a10 ?l10 ?c10 ?k10 ?a11 ?l11 ?c11 ?k11 ?a12 ?l12 ?c12 ?k12 ?a13 ?l13 ?c13 ?k13 ?a14 ?l14 ?c14 ?k14 ?a15 ?l15 ?c15 ?k15 ?a16 ?l16 ?c16 ?k16 ?a17 ?l17 ?c17 ?k17 ?a18 ?l18 ?c18 ?k18 ?a19 ?l19 ?c19 ?k19 ?a20 ?l20 ?c20 ?k20 ?a21 ?l21 ?c21 ?k21 ?a22 ?l22 ?c22 ?k22 ?a23 ?l23 ?c23 ?k23 ?a24 ?l24 ?c24 ?k24 ?a25 ?l25 ?c25 ?k25 ?a26 ?l26 ?c26 ?k26 ?q12 ?u12 ?q15 ?u15 ?n12_15 ?hTb ?z1 ?z2 ?z3 ?z4 ?z5 ?z6 ?z7 ?z8 ?z9 ?z10 ?z11 ?z12 ?z13
    (case a1 => k_is); (case l1 => k_is); (case c1 => k_is); (case k1 => k_is); (case a2 => k_is); (case l2 => k_is); (case c2 => k_is); (case k2 => k_is); (case a3 => k_is); (case l3 => k_is); (case c3 => k_is); (case k3 => k_is); (case a4 => k_is); (case l4 => k_is); (case c4 => k_is); (case k4 => k_is); (case a5 => k_is); (case l5 => k_is); (case c5 => k_is); (case k5 => k_is); (case a6 => k_is); (case l6 => k_is); (case c6 => k_is); (case k6 => k_is); (case a7 => k_is); (case l7 => k_is); (case c7 => k_is); (case k7 => k_is); (case a8 => k_is); (case l8 => k_is); (case c8 => k_is); (case k8 => k_is); (case a9 => k_is); (case l9 => k_is); (case c9 => k_is); (case k9 => k_is); (case a10 => k_is); (case l10 => k_is); (case c10 => k_is); (case k10 => k_is); (case a11 => k_is); (case l11 => k_is); (case c11 => k_is); (case k11 => k_is); (case a12 => k_is); (case l12 => k_is); (case c12 => k_is); (case k12 => k_is); (case a13 => k_is); (case l13 => k_is); (case c13 => k_is); (case k13 => k_is); (case a14 => k_is); (case l14 => k_is); (case c14 => k_is); (case k14 => k_is); (case a15 => k_is); (case l15 => k_is); (case c15 => k_is); (case k15 => k_is); (case a16 => k_is); (case l16 => k_is); (case c16 => k_is); (case k16 => k_is); (case a17 => k_is); (case l17 => k_is); (case c17 => k_is); (case k17 => k_is); (case a18 => k_is); (case l18 => k_is); (case c18 => k_is); (case k18 => k_is); (case a19 => k_is); (case l19 => k_is); (case c19 => k_is); (case k19 => k_is); (case a20 => k_is); (case l20 => k_is); (case c20 => k_is); (case k20 => k_is); (case a21 => k_is); (case l21 => k_is); (case c21 => k_is); (case k21 => k_is); (case a22 => k_is); (case l22 => k_is); (case c22 => k_is); (case k22 => k_is); (case a23 => k_is); (case l23 => k_is); (case c23 => k_is); (case k23 => k_is); (case a24 => k_is); (case l24 => k_is); (case c24 => k_is); (case k24 => k_is); (case a25 => k_is); (case l25 => k_is); (case c25 => k_is); (case k25 => k_is); (case a26 => k_is); (case l26 => k_is); (case c26 => k_is); (case k26 => k_is); (case q12 => kernel_rfl); (case u12 => kernel_rfl); (case q15 => kernel_rfl); (case u15 => kernel_rfl); (case n12_15 => kernel_rfl); (case z1 => k_is); (case z2 => k_is); (case z3 => k_is); (case z4 => k_is); (case z5 => k_is); (case z6 => k_is); (case z7 => k_is); (case z8 => k_is); (case z9 => k_is); (case z10 => k_is); (case z11 => k_is); (case z12 => k_is); (case z13 => k_is)
    case hTb => exact fun P hP => PySem.W.km_tabs_of Y P (by (simp only [List.mem_cons, List.not_mem_nil, or_false] at hP ⊢; rcases hP with hP | hP <;> simp [hP]))


