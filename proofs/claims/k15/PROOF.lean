import PyProof.Rows.All
import Wide.All
import OpenK.AllK
import Wide.FinOn
import HandS.ForMost
import HandS.TupAny
import HandS.Wide
import KE.SortKeyed
import HandS.IsInst
import HandS.Deep
import HandS.Style
import HandS.TupMul
import KE.KRevSl
import KE.DataAny
import KE.SortData
import KE.DataMinMax
import HandS.Text
import HandS.SortInts
import KE.DataFind
import KE.DataIsa
import HandS.Comp
import HandS.Flow
import HandS.Walk
import HandS.Zip
import KE.GoesMore
import KE.GoesEnum
import HandS.NoneIn
import HandS.Exc
import HandS.Ends
import HandS.HeadHook2
import HandS.HeadEnd
import HandS.Head0
import HandS.Head1
import HandS.Head2
import PySem.Challenge.RW_signworth_k15_words_that_cancel
set_option Elab.async false
set_option linter.all false
set_option maxRecDepth 100000
/-! Sw, part 1: pure data, how they lie in the abstract heap, frames. -/
namespace Sw
open PySem PySem.Spec PyProof.Rows L2

/-- immutable data: None, bool, int, text, tuple, a list that nobody changes -/
inductive P where
  | non | bl (b : Bool) | int (i : Int) | str (s : List Nat) | tup (xs : List P) | lst (xs : List P)
  deriving Inhabited
mutual
def P.beq : P → P → Bool
  | .non, q => (match q with | .non => true | _ => false)
  | .bl a, q => (match q with | .bl b => a == b | _ => false)
  | .int a, q => (match q with | .int b => a == b | _ => false)
  | .str a, q => (match q with | .str b => a == b | _ => false)
  | .tup a, q => (match q with | .tup b => P.beqs a b | _ => false)
  | .lst a, q => (match q with | .lst b => P.beqs a b | _ => false)
def P.beqs : List P → List P → Bool
  | [], q => (match q with | [] => true | _ => false)
  | x :: xs, q => (match q with | y :: ys => P.beq x y && P.beqs xs ys | _ => false)
end
mutual
theorem P.beq_iff : ∀ a b : P, P.beq a b = true ↔ a = b
  | .non, b => by cases b <;> simp [P.beq]
  | .bl _, b => by cases b <;> simp [P.beq]
  | .int _, b => by cases b <;> simp [P.beq]
  | .str _, b => by cases b <;> simp [P.beq]
  | .tup xs, b => by
    cases b with
    | tup ys => simp [P.beq, P.beqs_iff xs ys]
    | _ => simp [P.beq]
  | .lst xs, b => by
    cases b with
    | lst ys => simp [P.beq, P.beqs_iff xs ys]
    | _ => simp [P.beq]
theorem P.beqs_iff : ∀ a b : List P, P.beqs a b = true ↔ a = b
  | [], b => by cases b <;> simp [P.beqs]
  | x :: xs, b => by
    cases b with
    | nil => simp [P.beqs]
    | cons y ys => simp [P.beqs, P.beq_iff x y, P.beqs_iff xs ys]
end
instance : DecidableEq P := fun a b => if h : P.beq a b = true then isTrue ((P.beq_iff a b).mp h) else isFalse fun e => h ((P.beq_iff a b).mpr e)
/-- data: immutable, or an owned list -/
inductive D where
  | imm (p : P) | lst (xs : List P)
  deriving DecidableEq, Inhabited

/-! ### how they lie -/
def Stab (o : HO) : Prop := ¬ Mut (some o)
def FzL (K : PySem.W.Frag) (H : Hp) (a : Addr) (xs : List V) : Prop :=
  (∃ o, H a = some (.frz o (.lst xs))) ∨
    ∃ (o : Obj) (its : Array Value) (n : Nat), K.lookup a = some o ∧ o.cls = .type "list" ∧ o.dict = none ∧ o.data = .seq its n ∧ its.size ≤ sizeLine ∧ Vals xs its.toList
theorem FzL.sql {K : PySem.W.Frag} {H : Hp} {a : Addr} {xs : List V} (h : FzL K H a xs) : SqL K H a xs := by
  rcases h with ⟨o, h⟩ | h
  · exact .inl (.inr ⟨o, h⟩)
  · exact .inr h
/-- what is locked, or made for ever, stays -/
def Keeps (H H' : Hp) : Prop := ∀ a o, H a = some o → Stab o → H' a = some o
theorem Keeps.refl (H : Hp) : Keeps H H := fun _ _ h _ => h
theorem Keeps.trans {H H1 H2 : Hp} (a : Keeps H H1) (b : Keeps H1 H2) : Keeps H H2 := fun c o h s => b c o (a c o h s) s
theorem Keeps.of_same {H H' : Hp} (h : Same H H') : Keeps H H' := fun a o e _ => h a o e
theorem stab_tup {xs : List V} : Stab (.tup xs) := fun h => h
theorem stab_frz {o : Obj} {u : HO} : Stab (.frz o u) := fun h => h
theorem FzL.keep {K : PySem.W.Frag} {H H' : Hp} {a : Addr} {xs : List V} (h : FzL K H a xs) (k : Keeps H H') : FzL K H' a xs := by
  rcases h with ⟨o, h⟩ | h
  · exact .inl ⟨o, k _ _ h stab_frz⟩
  · exact .inr h
theorem sqT_keep {K : PySem.W.Frag} {H H' : Hp} {a : Addr} {xs : List V} (h : SqT K H a xs) (k : Keeps H H') : SqT K H' a xs := by
  rcases h with (h | ⟨o, h⟩) | h
  · exact .inl (.inl (k _ _ h stab_tup))
  · exact .inl (.inr ⟨o, k _ _ h stab_frz⟩)
  · exact .inr h
def sOf (s : List Nat) : Str := ⟨s.toArray⟩
theorem sOf_cps (s : List Nat) : (sOf s).cps.toList = s := by simp [sOf]
theorem sOf_len (s : List Nat) : (sOf s).length = s.length := by simp [sOf, Str.length]
theorem sOf_inj {s t : List Nat} (h : sOf s = sOf t) : s = t := by
  have := congrArg (fun z : Str => z.cps.toList) h
  simpa [sOf] using this
theorem of_cps {x : Str} {s : List Nat} (h : x.cps.toList = s) : x = sOf s := by
  cases x with
  | mk c => simp only [sOf]; congr 1; rw [← h]
def chrOk (s : List Nat) : Bool := s.all (· < 0x110000)
mutual
inductive PRep (K : PySem.W.Frag) (H : Hp) : V → P → Prop
  | non : PRep K H .non .non
  | bl (b : Bool) : PRep K H (.bl b) (.bl b)
  | int (i : Int) : PRep K H (.int i) (.int i)
  | str (s : List Nat) : chrOk s = true → PRep K H (.str (sOf s)) (.str s)
  | tup {a : Addr} {xs : List V} {ps : List P} : SqT K H a xs → PReps K H xs ps → PRep K H (.ref a) (.tup ps)
  | lst {a : Addr} {xs : List V} {ps : List P} : FzL K H a xs → PReps K H xs ps → PRep K H (.ref a) (.lst ps)
inductive PReps (K : PySem.W.Frag) (H : Hp) : List V → List P → Prop
  | nil : PReps K H [] []
  | cons {v : V} {vs : List V} {p : P} {ps : List P} : PRep K H v p → PReps K H vs ps → PReps K H (v :: vs) (p :: ps)
end
section
variable {K : PySem.W.Frag} {H H' : Hp}
mutual
theorem PRep.keep (k : Keeps H H') : ∀ {p : P} {v : V}, PRep K H v p → PRep K H' v p
  | .non, _, h => by cases h; exact .non
  | .bl b, _, h => by cases h; exact .bl b
  | .int i, _, h => by cases h; exact .int i
  | .str s, _, h => by cases h with | str _ c => exact .str s c
  | .tup ps, _, h => by cases h with | tup a b => exact .tup (sqT_keep a k) (PReps.keep k b)
  | .lst ps, _, h => by cases h with | lst a b => exact .lst (a.keep k) (PReps.keep k b)
theorem PReps.keep (k : Keeps H H') : ∀ {ps : List P} {vs : List V}, PReps K H vs ps → PReps K H' vs ps
  | [], _, h => by cases h; exact .nil
  | p :: ps, _, h => by cases h with | cons a b => exact .cons (PRep.keep k a) (PReps.keep k b)
end
theorem PReps.length : ∀ {vs : List V} {ps : List P}, PReps K H vs ps → vs.length = ps.length
  | _, _, .nil => rfl
  | _, _, .cons _ t => by simp [PReps.length t]
theorem PReps.get : ∀ {vs : List V} {ps : List P} {i : Nat} {p : P}, PReps K H vs ps → ps[i]? = some p → ∃ v, vs[i]? = some v ∧ PRep K H v p
  | _, _, i, p, .nil, e => by simp at e
  | _, _, 0, p, .cons r _, e => by simp at e; subst e; exact ⟨_, rfl, r⟩
  | _, _, i + 1, p, .cons _ t, e => by
    obtain ⟨v, h1, h2⟩ := PReps.get (i := i) (p := p) t (by simpa using e)
    exact ⟨v, by simpa using h1, h2⟩
theorem PReps.getV : ∀ {vs : List V} {ps : List P} {i : Nat} {v : V}, PReps K H vs ps → vs[i]? = some v → ∃ p, ps[i]? = some p ∧ PRep K H v p
  | _, _, i, p, .nil, e => by simp at e
  | _, _, 0, p, .cons r _, e => by simp at e; subst e; exact ⟨_, rfl, r⟩
  | _, _, i + 1, p, .cons _ t, e => by
    obtain ⟨v, h1, h2⟩ := PReps.getV (i := i) (v := p) t (by simpa using e)
    exact ⟨v, by simpa using h1, h2⟩
theorem PReps.append : ∀ {vs ws : List V} {ps qs : List P}, PReps K H vs ps → PReps K H ws qs → PReps K H (vs ++ ws) (ps ++ qs)
  | _, _, _, _, .nil, s => s
  | _, _, _, _, .cons r t, s => .cons r (PReps.append t s)
theorem PReps.take : ∀ {vs : List V} {ps : List P} (n : Nat), PReps K H vs ps → PReps K H (vs.take n) (ps.take n)
  | _, _, 0, _ => .nil
  | _, _, _ + 1, .nil => .nil
  | _, _, n + 1, .cons r t => .cons r (PReps.take n t)
theorem PReps.drop : ∀ {vs : List V} {ps : List P} (n : Nat), PReps K H vs ps → PReps K H (vs.drop n) (ps.drop n)
  | _, _, 0, r => r
  | _, _, _ + 1, .nil => .nil
  | _, _, n + 1, .cons _ t => PReps.drop n t
theorem PReps.set {v : V} {p : P} (r : PRep K H v p) : ∀ {vs : List V} {ps : List P} (i : Nat), PReps K H vs ps → PReps K H (vs.set i v) (ps.set i p)
  | _, _, _, .nil => .nil
  | _, _, 0, .cons _ t => .cons r t
  | _, _, i + 1, .cons q t => .cons q (PReps.set r i t)
theorem PReps.dropLast : ∀ {vs : List V} {ps : List P}, PReps K H vs ps → PReps K H vs.dropLast ps.dropLast
  | _, _, .nil => .nil
  | _, _, .cons r .nil => .nil
  | _, _, .cons r (.cons q t) => .cons r (PReps.dropLast (.cons q t))
theorem PReps.eraseIdx : ∀ {vs : List V} {ps : List P} (i : Nat), PReps K H vs ps → PReps K H (vs.eraseIdx i) (ps.eraseIdx i)
  | _, _, _, .nil => .nil
  | _, _, 0, .cons _ t => t
  | _, _, i + 1, .cons q t => .cons q (PReps.eraseIdx i t)
theorem PReps.reverse {vs : List V} {ps : List P} (h : PReps K H vs ps) : PReps K H vs.reverse ps.reverse := by
  induction h using PReps.rec (motive_1 := fun _ _ _ => True) with
  | nil => exact .nil
  | cons r t _ ih => rw [List.reverse_cons, List.reverse_cons]; exact ih.append (.cons r .nil)
  | _ => trivial
theorem PReps.rep {vs : List V} {ps : List P} (h : PReps K H vs ps) : ∀ k : Nat, PReps K H (List.replicate k vs).flatten (List.replicate k ps).flatten
  | 0 => .nil
  | k + 1 => by rw [List.replicate_succ, List.replicate_succ, List.flatten_cons, List.flatten_cons]; exact h.append (h.rep k)
theorem PReps.ints : ∀ ns : List Int, PReps K H (ns.map V.int) (ns.map P.int)
  | [] => .nil
  | n :: ns => .cons (.int n) (PReps.ints ns)
theorem PReps.of_ints : ∀ {ns : List Int} {vs : List V}, PReps K H vs (ns.map P.int) → vs = ns.map V.int
  | [], _, h => by cases h; rfl
  | n :: ns, _, h => by
    cases h with
    | cons a b => cases a; rw [List.map_cons, PReps.of_ints b]
theorem PReps.of_bls : ∀ {ns : List Bool} {vs : List V}, PReps K H vs (ns.map P.bl) → vs = ns.map V.bl
  | [], _, h => by cases h; rfl
  | n :: ns, _, h => by
    cases h with
    | cons a b => cases a; rw [List.map_cons, PReps.of_bls b]
theorem PReps.of_strs : ∀ {ns : List (List Nat)} {vs : List V}, PReps K H vs (ns.map P.str) → vs = (ns.map sOf).map V.str
  | [], _, h => by cases h; rfl
  | n :: ns, _, h => by
    cases h with
    | cons a b => cases a; rw [List.map_cons, List.map_cons, PReps.of_strs b]

/-! ### owned data: F, the objects that are owned -/
inductive Rep (K : PySem.W.Frag) (H : Hp) : V → D → List Addr → Prop
  | imm {v : V} {p : P} : PRep K H v p → Rep K H v (.imm p) []
  | lst {a : Addr} {vs : List V} {ps : List P} : H a = some (.lst vs) → PReps K H vs ps → Rep K H (.ref a) (.lst ps) [a]
inductive Reps (K : PySem.W.Frag) (H : Hp) : List V → List D → List Addr → Prop
  | nil : Reps K H [] [] []
  | cons {v : V} {vs : List V} {d : D} {ds : List D} {F G : List Addr} : Rep K H v d F → Reps K H vs ds G → Reps K H (v :: vs) (d :: ds) (F ++ G)
/-- the names' values: slots that the environment does not know may hold anything -/
inductive EnvRep (K : PySem.W.Frag) (H : Hp) : L2.St → List (Option D) → List Addr → Prop
  | nil : EnvRep K H [] [] []
  | ns {x : Option V} {σ : L2.St} {e : List (Option D)} {F : List Addr} : EnvRep K H σ e F → EnvRep K H (x :: σ) (none :: e) F
  | sm {v : V} {d : D} {σ : L2.St} {e : List (Option D)} {F G : List Addr} : Rep K H v d F → EnvRep K H σ e G → EnvRep K H (some v :: σ) (some d :: e) (F ++ G)
/-- from H, owning F, to H', owning G -/
structure Stp (H : Hp) (F : List Addr) (H' : Hp) (G : List Addr) : Prop where
  keep : ∀ a o, H a = some o → a ∉ F → H' a = some o
  own : ∀ a ∈ G, a ∈ F ∨ H a = none
def MutF (H : Hp) (F : List Addr) : Prop := ∀ a ∈ F, ∃ o, H a = some o ∧ Mut (some o)
theorem Rep.mut {v : V} {d : D} {F : List Addr} (h : Rep K H v d F) : MutF H F := by
  cases h with
  | imm _ => intro a z; cases z
  | lst e _ => intro a z; rw [List.mem_singleton] at z; subst z; exact ⟨_, e, trivial⟩
theorem MutF.append {F G : List Addr} (a : MutF H F) (b : MutF H G) : MutF H (F ++ G) := fun c z => (List.mem_append.mp z).elim (a c) (b c)
theorem Reps.mut {vs : List V} {ds : List D} {F : List Addr} (h : Reps K H vs ds F) : MutF H F := by
  induction h with
  | nil => intro a z; cases z
  | cons r _ ih => exact r.mut.append ih
theorem EnvRep.mut {σ : L2.St} {e : List (Option D)} {F : List Addr} (h : EnvRep K H σ e F) : MutF H F := by
  induction h with
  | nil => intro a z; cases z
  | ns _ ih => exact ih
  | sm r _ ih => exact r.mut.append ih
theorem Rep.mono {v : V} {d : D} {F : List Addr} (h : Rep K H v d F) (k : Keeps H H') (hf : ∀ a ∈ F, H' a = H a) : Rep K H' v d F := by
  cases h with
  | imm r => exact .imm (r.keep k)
  | lst e r => exact .lst (by rw [hf _ (List.mem_singleton.mpr rfl)]; exact e) (r.keep k)
theorem Reps.mono {vs : List V} {ds : List D} {F : List Addr} (h : Reps K H vs ds F) (k : Keeps H H') (hf : ∀ a ∈ F, H' a = H a) : Reps K H' vs ds F := by
  induction h with
  | nil => exact .nil
  | cons r _ ih => exact .cons (r.mono k fun a z => hf a (List.mem_append_left _ z)) (ih fun a z => hf a (List.mem_append_right _ z))
theorem EnvRep.mono {σ : L2.St} {e : List (Option D)} {F : List Addr} (h : EnvRep K H σ e F) (k : Keeps H H') (hf : ∀ a ∈ F, H' a = H a) : EnvRep K H' σ e F := by
  induction h with
  | nil => exact .nil
  | ns _ ih => exact .ns (ih hf)
  | sm r _ ih => exact .sm (r.mono k fun a z => hf a (List.mem_append_left _ z)) (ih fun a z => hf a (List.mem_append_right _ z))
theorem Stp.keeps {F G : List Addr} (s : Stp H F H' G) (m : MutF H F) : Keeps H H' := fun a o e st => s.keep a o e fun z => by
  obtain ⟨o', e', mu⟩ := m a z
  rw [e] at e'; cases e'
  exact st mu
theorem Stp.refl (H : Hp) (F : List Addr) : Stp H F H F := ⟨fun _ _ h _ => h, fun _ z => .inl z⟩
theorem Stp.trans {F G L : List Addr} {H1 H2 : Hp} (s : Stp H F H1 G) (t : Stp H1 G H2 L) : Stp H F H2 L where
  keep := fun a o e n => t.keep a o (s.keep a o e n) fun z => (s.own a z).elim n fun q => by rw [e] at q; cases q
  own := fun a z => (t.own a z).elim (s.own a) fun q => by
    cases r : H a with
    | none => exact .inr rfl
    | some o =>
      by_cases n : a ∈ F
      · exact .inl n
      · rw [s.keep a o r n] at q; cases q
theorem Stp.frame {F G : List Addr} (s : Stp H F H' G) (R : List Addr) : Stp H (F ++ R) H' (G ++ R) where
  keep := fun a o e n => s.keep a o e fun z => n (List.mem_append_left _ z)
  own := fun a z => (List.mem_append.mp z).elim (fun z => (s.own a z).elim (fun y => .inl (List.mem_append_left _ y)) .inr) fun z => .inl (List.mem_append_right _ z)
theorem Stp.frameL {F G : List Addr} (s : Stp H F H' G) (R : List Addr) : Stp H (R ++ F) H' (R ++ G) where
  keep := fun a o e n => s.keep a o e fun z => n (List.mem_append_right _ z)
  own := fun a z => (List.mem_append.mp z).elim (fun z => .inl (List.mem_append_left _ z)) fun z => (s.own a z).elim (fun y => .inl (List.mem_append_right _ y)) .inr
theorem Stp.less {F F1 G G1 : List Addr} (s : Stp H F H' G) (h : ∀ a ∈ F, a ∈ F1) (h' : ∀ a ∈ G1, a ∈ G) : Stp H F1 H' G1 where
  keep := fun a o e n => s.keep a o e fun z => n (h a z)
  own := fun a z => (s.own a (h' a z)).elim (fun y => .inl (h a y)) .inr
theorem Stp.of_same {F : List Addr} (s : Same H H') : Stp H F H' F := ⟨fun a o e _ => s a o e, fun _ z => .inl z⟩
/-- what is not among F, framed -/
theorem Stp.off {F G R : List Addr} (s : Stp H F H' G) (m : MutF H R) (d : ∀ a ∈ R, a ∉ F) : ∀ a ∈ R, H' a = H a := fun a z => by
  obtain ⟨o, e, _⟩ := m a z
  rw [e, s.keep a o e (d a z)]
/-- nothing of R is owned behind -/
theorem Stp.apart {F G R : List Addr} (s : Stp H F H' G) (m : MutF H R) (d : ∀ a ∈ R, a ∉ F) : ∀ a ∈ R, a ∉ G := fun a z y => (s.own a y).elim (d a z) fun q => by
  obtain ⟨o, e, _⟩ := m a z
  rw [e] at q; cases q
end
end Sw
/-! Sw, part 2: the core language and its evaluator. -/
namespace Sw
abbrev line : Nat := 16777216
abbrev En := List (Option D)
def getE (e : En) (i : Nat) : Option D := (e[i]?).join
inductive Opd where
  | tmp (d : D) | slot (i : Nat)
def resv (e : En) : Opd → Option D
  | .tmp d => some d
  | .slot i => getE e i
def resvs (e : En) : List Opd → Option (List D)
  | [] => some []
  | o :: os => (resv e o).bind fun d => (resvs e os).bind fun ds => some (d :: ds)

/-! ### values -/
mutual
/-- Python's == -/
def peq : P → P → Bool
  | .non, q => (match q with | .non => true | _ => false)
  | .bl a, q => (match q with | .bl b => a == b | .int j => (if a then 1 else 0) == j | _ => false)
  | .int i, q => (match q with | .bl b => i == (if b then 1 else 0) | .int j => i == j | _ => false)
  | .str a, q => (match q with | .str b => a == b | _ => false)
  | .tup a, q => (match q with | .tup b => peqs a b | _ => false)
  | .lst a, q => (match q with | .lst b => peqs a b | _ => false)
def peqs : List P → List P → Bool
  | [], q => (match q with | [] => true | _ => false)
  | x :: xs, q => (match q with | y :: ys => peq x y && peqs xs ys | _ => false)
end
mutual
def depth : P → Nat
  | .non => 0
  | .bl _ => 0
  | .int _ => 0
  | .str _ => 0
  | .tup xs => depths xs + 1
  | .lst xs => depths xs + 1
def depths : List P → Nat
  | [] => 0
  | x :: xs => max (depth x) (depths xs)
end
mutual
def toPy : P → PySem.PyData
  | .non => .none
  | .bl b => .bool b
  | .int i => .int i
  | .str s => .str (sOf s)
  | .tup xs => .tuple (toPys xs)
  | .lst xs => .list (toPys xs)
def toPys : List P → List PySem.PyData
  | [] => []
  | x :: xs => toPy x :: toPys xs
end
/-! the order of alike data -/
def ltD (p q : P) : Bool := PySem.W.dataLt (toPy p) (toPy q)
def alikes (ps : List P) : Bool := ps.all fun p => ps.all fun q => PySem.W.alike (toPy p) (toPy q)
def isNonP : P → Bool
  | .non => true
  | _ => false
def isTupP : P → Bool
  | .tup _ => true
  | _ => false
def isTupC : P → Bool
  | .tup (_ :: _) => true
  | _ => false
def sortD (ps : List P) : List P := ps.mergeSort fun a b => !ltD b a
def minD (p : P) (ps : List P) : P := ps.foldl (fun a y => if ltD y a then y else a) p
def maxD (p : P) (ps : List P) : P := ps.foldl (fun a y => if ltD a y then y else a) p
/-- what is read: the owned list as data -/
def rd : D → P
  | .imm p => p
  | .lst ps => .lst ps
def elems : D → Option (List P)
  | .imm (.tup ps) => some ps
  | .imm (.lst ps) => some ps
  | .imm (.str s) => some (s.map fun c => .str [c])
  | .lst ps => some ps
  | _ => none
/-- lists alone -/
def listOf : D → Option (List P)
  | .imm (.lst ps) => some ps
  | .lst ps => some ps
  | _ => none
def seqOf : D → Option (List P)
  | .imm (.tup ps) => some ps
  | d => listOf d
def truth : D → Option Bool
  | .imm .non => some false
  | .imm (.bl b) => some b
  | .imm (.int i) => some (i != 0)
  | .imm (.str s) => if s.length ≤ line then some (!s.isEmpty) else none
  | .imm (.tup ps) => some (!ps.isEmpty)
  | .imm (.lst ps) => some (!ps.isEmpty)
  | .lst ps => some (!ps.isEmpty)
def bI (b : Bool) : Int := if b then 1 else 0
/-- < of two values of one kind -/
def plt : P → P → Option Bool
  | .int i, .int j => some (decide (i < j))
  | .str a, .str b => some (decide (a < b))
  | _, _ => none
inductive Ty where
  | int | bool | str | tuple | list
  deriving DecidableEq
def isTy (p : P) : Ty → Bool
  | .int => (match p with | .int _ => true | .bl _ => true | _ => false)
  | .bool => (match p with | .bl _ => true | _ => false)
  | .str => (match p with | .str _ => true | _ => false)
  | .tuple => (match p with | .tup _ => true | _ => false)
  | .list => (match p with | .lst _ => true | _ => false)
/-- the place of an index -/
def ixP (n : Nat) (i : Int) : Option Nat := if 0 ≤ i then (if i < n then some i.toNat else none) else if -(n : Int) ≤ i then some (i + n).toNat else none
def atP {α : Type} (xs : List α) (i : Int) : Option α := (ixP xs.length i).bind fun j => xs[j]?
/-- a slice's bound -/
def sIxP (n d : Nat) : Option Int → Nat
  | none => d
  | some i => if i < 0 then (i + n).toNat else min i.toNat n
def cutP {α : Type} (xs : List α) (lo hi : Option Int) : List α := (xs.drop (sIxP xs.length 0 lo)).take (sIxP xs.length xs.length hi - sIxP xs.length 0 lo)
/-- where y first stands in x, from a place on -/
def findAt (y : List Nat) : List Nat → Nat → Option Nat
  | [], n => if y.isEmpty then some n else none
  | x :: xs, n => if y.isPrefixOf (x :: xs) then some n else findAt y xs (n + 1)

inductive Op where
  | add | sub | mul | fdiv | mod | neg | pow | xor
  | eq | ne | lt | le | gt | ge | isN | notN | isin | notin | isB | notB
  | idx | rev
  | len | list | tuple | isi (ts : List Ty) | min2 | max2 | int | abs | sum | all | any
  | join | index
  | sorted | minL | maxL | swapcase | lower | upper | repr
  deriving DecidableEq
def mulOk (a b : Int) : Bool := decide (-(2 ^ 64) < a ∧ a < 2 ^ 64) || decide (-(2 ^ 64) < b ∧ b < 2 ^ 64)
def allInts : List P → Option (List Int)
  | [] => some []
  | .int i :: r => (allInts r).map (i :: ·)
  | _ => none
def allBls : List P → Option (List Bool)
  | [] => some []
  | .bl b :: r => (allBls r).map (b :: ·)
  | _ => none
def allStrs : List P → Option (List (List Nat))
  | [] => some []
  | .str b :: r => (allStrs r).map (b :: ·)
  | _ => none
def joinL (sep : List Nat) : List (List Nat) → List Nat
  | [] => []
  | [x] => x
  | x :: y :: r => x ++ sep ++ joinL sep (y :: r)
def ib (b : Bool) : Option D := some (.imm (.bl b))
def ii (i : Int) : Option D := some (.imm (.int i))
def cmpEq (a b : D) : Option Bool := if min (depth (rd a)) (depth (rd b)) ≤ 60 then some (peq (rd a) (rd b)) else none
def opIn (x : D) (y : D) : Option Bool :=
  match x, y with
  | .imm (.str a), .imm (.str b) => some (findAt a b 0).isSome
  | .imm p, .imm (.tup ps) => if min (depths ps) (depth p) ≤ 50 then some (ps.any fun z => peq z p) else none
  | .imm p, .imm (.lst ps) => if min (depths ps) (depth p) ≤ 50 then some (ps.any fun z => peq z p) else none
  | .imm p, .lst ps => if min (depths ps) (depth p) ≤ 50 then some (ps.any fun z => peq z p) else none
  | _, _ => none
def opAdd (x y : D) : Option D :=
  match x, y with
  | .imm (.int a), .imm (.int b) => ii (a + b)
  | .imm (.str a), .imm (.str b) => if a.length + b.length ≤ line then some (.imm (.str (a ++ b))) else none
  | .imm (.tup a), .imm (.tup b) => if a.length + b.length ≤ line then some (.imm (.tup (a ++ b))) else none
  | .lst a, .lst b => if a.length + b.length ≤ line then some (.lst (a ++ b)) else none
  | _, _ => none
def rept {α : Type} (xs : List α) (k : Int) : List α := (List.replicate k.toNat xs).flatten
def opMul (x y : D) : Option D :=
  match x, y with
  | .imm (.int a), .imm (.int b) => if mulOk a b then ii (a * b) else none
  | .imm (.str a), .imm (.int k) => if -(2 ^ 62) ≤ k ∧ k < 2 ^ 62 ∧ a.length * k.toNat ≤ line then some (.imm (.str (rept a k))) else none
  | .lst a, .imm (.int k) => if -(2 ^ 62) ≤ k ∧ k < 2 ^ 62 ∧ a.length * k.toNat ≤ line then some (.lst (rept a k)) else none
  | .imm (.tup a), .imm (.int k) => if -(2 ^ 62) ≤ k ∧ k < 2 ^ 62 ∧ a.length * k.toNat ≤ line then some (.imm (.tup (rept a k))) else none
  | _, _ => none
def opIdx (x y : D) : Option D :=
  match x, y with
  | .imm (.str s), .imm (.int i) => if s.length ≤ line then (atP s i).bind fun c => some (.imm (.str [c])) else none
  | .imm (.tup ps), .imm (.int i) => (atP ps i).bind fun p => some (.imm p)
  | .imm (.lst ps), .imm (.int i) => (atP ps i).bind fun p => some (.imm p)
  | .lst ps, .imm (.int i) => (atP ps i).bind fun p => some (.imm p)
  | _, _ => none
def int2 (f : Int → Int → Option D) (x y : D) : Option D :=
  match x, y with
  | .imm (.int a), .imm (.int b) => f a b
  | _, _ => none
def int1 (f : Int → Option D) (x : D) : Option D :=
  match x with
  | .imm (.int a) => f a
  | _ => none
def opCmpI (f : Int → Int → Bool) (g : List Nat → List Nat → Bool) (x y : D) : Option D :=
  match x, y with
  | .imm (.int i), .imm (.int j) => ib (f i j)
  | .imm (.str a), .imm (.str b) => ib (g a b)
  | _, _ => none
def opInt (x : D) : Option D :=
  match x with
  | .imm (.int i) => ii i
  | .imm (.bl b) => ii (bI b)
  | _ => none
def opLen : D → Option D
  | .imm (.str s) => if s.length ≤ line then ii s.length else none
  | .imm (.tup ps) => ii ps.length
  | .imm (.lst ps) => ii ps.length
  | .lst ps => ii ps.length
  | _ => none
def opRev : D → Option D
  | .imm (.str s) => if s.length ≤ line then some (.imm (.str s.reverse)) else none
  | .imm (.tup ps) => some (.imm (.tup ps.reverse))
  | .imm (.lst ps) => some (.lst ps.reverse)
  | .lst ps => some (.lst ps.reverse)
  | _ => none
def idxOf (x : P) : List P → Option Nat
  | [] => none
  | p :: ps => if peq p x then some 0 else (idxOf x ps).map (· + 1)
def opList (x : D) : Option D := (elems x).bind fun ps => if ps.length ≤ line then some (.lst ps) else none
def opTuple (x : D) : Option D := (elems x).bind fun ps => if ps.length ≤ line then some (.imm (.tup ps)) else none
def opSum (x : D) : Option D := (listOf x).bind fun ps => (allInts ps).bind fun ns => ii ns.sum
def truthP : P → Bool
  | .non => false
  | .bl b => b
  | .int i => i != 0
  | .str s => !s.isEmpty
  | .tup ps => !ps.isEmpty
  | .lst ps => !ps.isEmpty
def fitP : P → Bool
  | .str s => decide (s.length ≤ line)
  | .tup ps => decide (ps.length ≤ line)
  | .lst ps => decide (ps.length ≤ line)
  | _ => true
def opAll (x : D) : Option D := (seqOf x).bind fun ps => if ps.all fitP then ib (ps.all truthP) else none
def opAny (x : D) : Option D := (seqOf x).bind fun ps => if ps.all fitP then ib (ps.any truthP) else none
def opJoin (x y : D) : Option D :=
  match x with
  | .imm (.str sep) => (match y with
    | .imm (.str _) => none
    | _ => (elems y).bind fun ps => (allStrs ps).bind fun ns => if (ns.map List.length).sum + ns.length * sep.length ≤ line then some (.imm (.str (joinL sep ns))) else none)
  | _ => none
def opIndex (x y : D) : Option D :=
  match x, y with
  | .lst ps, .imm p => if min (depths ps) (depth p) ≤ 50 then (idxOf p ps).bind fun k => ii k else none
  | .imm (.lst ps), .imm p => if min (depths ps) (depth p) ≤ 50 then (idxOf p ps).bind fun k => ii k else none
  | _, _ => none
def sortOk (ps : List P) : Bool := alikes ps && (ps.all isTupC || ps.all fun p => !isNonP p && !isTupP p) && decide (depths ps ≤ 50) && decide (ps.length ≤ line)
def minOk (ps : List P) : Bool := alikes ps && ps.all (fun p => !isNonP p) && decide (depths ps ≤ 50)
def opSorted (x : D) : Option D := (seqOf x).bind fun ps => if sortOk ps then some (.lst (sortD ps)) else none
def opMinL (x : D) : Option D := (seqOf x).bind fun ps => match ps with
  | [] => none
  | p :: r => if minOk (p :: r) then some (.imm (minD p r)) else none
def opMaxL (x : D) : Option D := (seqOf x).bind fun ps => match ps with
  | [] => none
  | p :: r => if minOk (p :: r) then some (.imm (maxD p r)) else none
/-! letters up to 127 -/
def ascii (s : List Nat) : Bool := s.all (fun c => decide (c < 128)) && decide (s.length ≤ 5000000)
def swC (c : Nat) : Nat := if 65 ≤ c ∧ c ≤ 90 then c + 32 else if 97 ≤ c ∧ c ≤ 122 then c - 32 else c
def loC (c : Nat) : Nat := if 65 ≤ c ∧ c ≤ 90 then c + 32 else c
def upC (c : Nat) : Nat := if 97 ≤ c ∧ c ≤ 122 then c - 32 else c
def opTx (f : Nat → Nat) (x : D) : Option D := match x with
  | .imm (.str s) => if ascii s then some (.imm (.str (s.map f))) else none
  | _ => none
/-- repr of a truth value, of None -/
def opRepr (x : D) : Option D := match x with
  | .imm (.bl b) => some (.imm (.str (if b then [84, 114, 117, 101] else [70, 97, 108, 115, 101])))
  | .imm .non => some (.imm (.str [78, 111, 110, 101]))
  | _ => none
def isB2 (n : Bool) (x y : D) : Option D := match x, y with
  | .imm (.bl a), .imm (.bl b) => ib (if n then !decide (a = b) else decide (a = b))
  | _, _ => none
def opSem : Op → List D → Option D
  | .add, [x, y] => opAdd x y
  | .sub, [x, y] => int2 (fun a b => ii (a - b)) x y
  | .mul, [x, y] => opMul x y
  | .fdiv, [x, y] => int2 (fun a b => if b ≠ 0 ∧ b.natAbs < 1073741824 then ii (a.fdiv b) else none) x y
  | .mod, [x, y] => int2 (fun a b => if b ≠ 0 then ii (a.fmod b) else none) x y
  | .xor, [x, y] => int2 (fun a b => ii (PySem.Builtin.bitXor a b)) x y
  | .isB, [x, y] => isB2 false x y
  | .notB, [x, y] => isB2 true x y
  | .pow, [x, y] => int2 (fun a b => if 0 ≤ b ∧ b ≤ 1000000 ∧ a.natAbs < 2 ^ 64 then ii (a ^ b.toNat) else none) x y
  | .neg, [x] => int1 (fun a => ii (-a)) x
  | .eq, [x, y] => (cmpEq x y).bind ib
  | .ne, [x, y] => (cmpEq x y).bind fun b => ib (!b)
  | .lt, [x, y] => opCmpI (fun i j => decide (i < j)) (fun a b => decide (a < b)) x y
  | .le, [x, y] => opCmpI (fun i j => decide (i ≤ j)) (fun a b => !decide (b < a)) x y
  | .gt, [x, y] => opCmpI (fun i j => decide (j < i)) (fun a b => decide (b < a)) x y
  | .ge, [x, y] => opCmpI (fun i j => decide (j ≤ i)) (fun a b => !decide (a < b)) x y
  | .isN, [x] => ib (decide (x = .imm .non))
  | .notN, [x] => ib (!decide (x = .imm .non))
  | .isin, [x, y] => (opIn x y).bind ib
  | .notin, [x, y] => (opIn x y).bind fun b => ib (!b)
  | .idx, [x, y] => opIdx x y
  | .rev, [x] => opRev x
  | .len, [x] => opLen x
  | .list, [x] => opList x
  | .tuple, [x] => opTuple x
  | .isi ts, [x] => ib (ts.any (isTy (rd x)))
  | .min2, [x, y] => int2 (fun i j => ii (if j < i then j else i)) x y
  | .max2, [x, y] => int2 (fun i j => ii (if j > i then j else i)) x y
  | .int, [x] => opInt x
  | .abs, [x] => int1 (fun i => ii (if i < 0 then -i else i)) x
  | .sum, [x] => opSum x
  | .all, [x] => opAll x
  | .any, [x] => opAny x
  | .join, [x, y] => opJoin x y
  | .index, [x, y] => opIndex x y
  | .sorted, [x] => opSorted x
  | .minL, [x] => opMinL x
  | .maxL, [x] => opMaxL x
  | .swapcase, [x] => opTx swC x
  | .lower, [x] => opTx loC x
  | .upper, [x] => opTx upC x
  | .repr, [x] => opRepr x
  | _, _ => none

/-! ### iterables -/
inductive IK where
  | seq | rng1 | rng2 | rng3 | enum | zip
  deriving DecidableEq
def small62 (i : Int) : Bool := decide (-(2 ^ 62) ≤ i ∧ i < 2 ^ 62)
def zipSem (x y : D) : Option (List P) := (elems x).bind fun ps => (elems y).bind fun qs => some ((ps.zip qs).map fun q => .tup [q.1, q.2])
def items : IK → List D → Option (List P)
  | .seq, [x] => elems x
  | .rng1, [.imm (.int j)] => if small62 j then some ((List.range j.toNat).map fun k : Nat => P.int (k : Int)) else none
  | .rng2, [.imm (.int i), .imm (.int j)] => if small62 i && small62 j then some ((List.range (j - i).toNat).map fun k : Nat => P.int (i + (k : Int))) else none
  | .rng3, [.imm (.int i), .imm (.int j), .imm (.int c)] => if small62 i && small62 j && decide (c = -1) then some ((List.range (i - j).toNat).map fun k : Nat => P.int (i - (k : Int))) else none
  | .enum, [x] => (elems x).map fun ps => ps.zipIdx.map fun q => .tup [.int (q.2 : Int), q.1]
  | .zip, [x, y] => zipSem x y
  | _, _ => none

/-! ### the core -/
inductive Pat where
  | nm (i : Nat) | tp (ps : List Pat)
inductive MOp where
  | append | extend | pop | popAt | remove
  deriving DecidableEq
def mutSem : MOp → List P → List D → Option (List P × P)
  | .append, xs, [.imm p] => if xs.length < line then some (xs ++ [p], .non) else none
  | .extend, xs, [.lst ps] => if xs.length + ps.length ≤ line then some (xs ++ ps, .non) else none
  | .pop, xs, [] => (xs[xs.length - 1]?).map fun p => (xs.dropLast, p)
  | .popAt, xs, [.imm (.int i)] => if xs.length ≤ line then (ixP xs.length i).bind fun j => (xs[j]?).map fun p => (xs.eraseIdx j, p) else none
  | .remove, xs, [.imm p] => if min (depths xs) (depth p) ≤ 50 then (idxOf p xs).map fun j => (xs.eraseIdx j, .non) else none
  | _, _, _ => none
inductive E where
  | nm (i : Nat)
  | cst (p : P)
  | glo (x : Nat)
  | mv (i : Nat)
  | tup (es : List E)
  | lst (es : List E)
  | op (o : Op) (es : List E)
  | mth (o : Op) (a : E) (es : List E)
  | chain (o1 o2 : Op) (a b c : E)
  | and (es : List E)
  | or (es : List E)
  | not (e : E)
  | ife (t a b : E)
  | slc (a : E) (lo hi : Option E)
  | mut (m : MOp) (i : Nat) (es : List E)
  | call (f : Nat) (es : List E)
  | cmp (own : List Nat) (t : Pat) (k : IK) (as : List E) (tests : List E) (elt : E)
  | cmp2 (own own2 : List Nat) (t : Pat) (k : IK) (as : List E) (tests : List E) (t2 : Pat) (k2 : IK) (as2 : List E) (tests2 : List E) (elt : E)
  | frz (e : E)
inductive T where
  | asg (t : Pat) (e : E)
  | par (is : List Nat) (es : List E)
  | aug (i : Nat) (o : Op) (e : E)
  | sto (i : Nat) (ix e : E)
  | augs (i : Nat) (ix : E) (o : Op) (e : E)
  | ex (e : E)
  | ret (e : E)
  | ret0
  | ifs (t : E) (a b : List T)
  | fors (t : Pat) (k : IK) (as : List E) (body : List T)
  | whl (n : Nat) (t : E) (body : List T)
  | brk | cont | pass | never
inductive Fl where
  | nx | rt (d : D) | bk | ct
abbrev CallS := Nat → List D → Option (D × List D)
abbrev M (α : Type) := En → Option (α × En)
def isImm : D → Bool
  | .imm _ => true
  | .lst _ => false
def toImm : D → Option P
  | .imm p => some p
  | .lst _ => none
def toImms : List D → Option (List P)
  | [] => some []
  | d :: ds => (toImm d).bind fun p => (toImms ds).bind fun ps => some (p :: ps)
mutual
/-- a value into a pattern -/
def bindP : Pat → P → En → Option En
  | .nm i, p, e => some (e.set i (some (.imm p)))
  | .tp ts, p, e => (match p with
    | .tup ps => bindPs ts ps e
    | .lst ps => bindPs ts ps e
    | _ => none)
def bindPs : List Pat → List P → En → Option En
  | [], ps, e => (match ps with | [] => some e | _ => none)
  | t :: ts, ps, e => (match ps with
    | p :: ps => (bindP t p e).bind fun e' => bindPs ts ps e'
    | _ => none)
end
/-- the names that are walked stand as they stood -/
def lockOk (os : List Opd) (e e' : En) : Bool := os.all fun o => match o with
  | .tmp _ => true
  | .slot i => decide (getE e' i = getE e i)
def wipeE (e : En) : List Nat → En
  | [] => e
  | i :: is => (wipeE e is).set i none
def keepImm : Option D → Option D
  | some (.imm p) => some (.imm p)
  | _ => none
def putBack (e e0 : En) : List Nat → En
  | [] => e
  | i :: is => putBack (e.set i (keepImm (getE e0 i))) e0 is
/-- what a loop over items makes: the list so far, the names -/
def compL (step : P → List P → En → Option (List P × En)) : List P → List P → En → Option (List P × En)
  | [], acc, e => some (acc, e)
  | p :: ps, acc, e => (step p acc e).bind fun r => compL step ps r.1 r.2
def freeOf (os : List Opd) (own : List Nat) : Bool := os.all fun o => match o with
  | .tmp _ => true
  | .slot i => !own.contains i
def immO : Opd → Option P
  | .tmp (.imm p) => some p
  | _ => none
def immOs : List Opd → Option (List P)
  | [] => some []
  | o :: os => (immO o).bind fun p => (immOs os).bind fun ps => some (p :: ps)
def noSlot (os : List Opd) (i : Nat) : Bool := os.all fun o => match o with
  | .tmp _ => true
  | .slot j => j != i
/-- what the called one has changed goes back to the names -/
def back : List Opd → List D → List D → En → Option En
  | [], ds, rs, e => (match ds, rs with
    | [], [] => some e
    | _, _ => none)
  | o :: os, ds, rs, e => (match ds, rs with
    | d :: ds, r :: rs => (match o with
      | .tmp _ => back os ds rs e
      | .slot i => (match d with
        | .imm _ => back os ds rs e
        | .lst _ => if noSlot os i then (back os ds rs (e.set i none)).bind fun e' => some (e'.set i (some r)) else none))
    | _, _ => none)
/-- the receiver of a method is of its type -/
def rcvOk (o : Op) (d : D) : Bool := match o, d with
  | .join, .imm (.str _) => true
  | .index, .lst _ => true
  | .index, .imm (.lst _) => true
  | .swapcase, .imm (.str _) => true
  | .lower, .imm (.str _) => true
  | .upper, .imm (.str _) => true
  | _, _ => false
def slcSem (d : D) (l h : Option Int) : Option D := match d with
  | .imm (.str s) => if s.length ≤ line then some (.imm (.str (cutP s l h))) else none
  | .imm (.tup ps) => some (.imm (.tup (cutP ps l h)))
  | .imm (.lst ps) => some (.lst (cutP ps l h))
  | .lst ps => some (.lst (cutP ps l h))
  | _ => none
def frzSem (x : Opd) (e : En) : Option (P × En) := match x with
  | .tmp (.imm p) => some (p, e)
  | .tmp (.lst ps) => some (.lst ps, e)
  | .slot i => (match getE e i with
    | some (.imm p) => some (p, e)
    | some (.lst ps) => some (.lst ps, e.set i (some (.imm (.lst ps))))
    | none => none)
def nmSem (i : Nat) (e : En) : Option Opd := match getE e i with
  | some (.imm p) => some (.tmp (.imm p))
  | some (.lst _) => some (.slot i)
  | none => none
/-- a name's value, the name given up -/
def mvSem (i : Nat) (e : En) : Option (Opd × En) := match getE e i with
  | some (.imm p) => some (.tmp (.imm p), e)
  | some (.lst ps) => some (.tmp (.lst ps), e.set i none)
  | none => none
def mutDo (m : MOp) (i : Nat) (os : List Opd) (e : En) : Option (P × En) := (resvs e os).bind fun ds => match getE e i with
  | some (.lst xs) => if noSlot os i then (mutSem m xs ds).bind fun r => some (r.2, e.set i (some (.lst r.1))) else none
  | _ => none
def intO : Opd → Option Int
  | .tmp (.imm (.int i)) => some i
  | _ => none
mutual
def evo (Φ : CallS) (G : List P) : E → M Opd
  | .nm i, e => (nmSem i e).bind fun o => some (o, e)
  | .cst p, e => some (.tmp (.imm p), e)
  | .glo x, e => (G[x]?).bind fun p => some (.tmp (.imm p), e)
  | .mv i, e => mvSem i e
  | .tup es, e => (evos Φ G es e).bind fun r => (immOs r.1).bind fun ps => if ps.length ≤ line then some (.tmp (.imm (.tup ps)), r.2) else none
  | .lst es, e => (evos Φ G es e).bind fun r => (immOs r.1).bind fun ps => if ps.length ≤ line then some (.tmp (.lst ps), r.2) else none
  | .op o es, e => (evos Φ G es e).bind fun r => (resvs r.2 r.1).bind fun ds => (opSem o ds).bind fun d => some (.tmp d, r.2)
  | .mth o a es, e => (evo Φ G a e).bind fun x => (resv x.2 x.1).bind fun d0 => if rcvOk o d0 then (evos Φ G es x.2).bind fun r => (resvs r.2 (x.1 :: r.1)).bind fun ds => (opSem o ds).bind fun d => some (.tmp d, r.2) else none
  | .chain o1 o2 a b c, e => (evo Φ G a e).bind fun x => (evo Φ G b x.2).bind fun y => (resvs y.2 [x.1, y.1]).bind fun ds => (opSem o1 ds).bind fun r =>
      (match r with
      | .imm (.bl true) => (evo Φ G c y.2).bind fun z => (resvs z.2 [y.1, z.1]).bind fun ds => (opSem o2 ds).bind fun d => some (.tmp d, z.2)
      | .imm (.bl false) => some (.tmp (.imm (.bl false)), y.2)
      | _ => none)
  | .and es, e => evand Φ G es e
  | .or es, e => evor Φ G es e
  | .not a, e => (evo Φ G a e).bind fun x => (resv x.2 x.1).bind fun d => (truth d).bind fun b => some (.tmp (.imm (.bl (!b))), x.2)
  | .ife t a b, e => (evo Φ G t e).bind fun x => (resv x.2 x.1).bind fun d => (truth d).bind fun k => if k then evo Φ G a x.2 else evo Φ G b x.2
  | .slc a lo hi, e => (evo Φ G a e).bind fun x => (evopt Φ G lo x.2).bind fun l => (evopt Φ G hi l.2).bind fun h => (resv h.2 x.1).bind fun d => (slcSem d l.1 h.1).bind fun r => some (.tmp r, h.2)
  | .mut m i es, e => (getE e i).bind fun d0 => (listOf d0).bind fun _ => (evos Φ G es e).bind fun r => (mutDo m i r.1 r.2).bind fun q => some (.tmp (.imm q.1), q.2)
  | .call f es, e => (evos Φ G es e).bind fun r => (resvs r.2 r.1).bind fun ds => (Φ f ds).bind fun q => (back r.1 ds q.2 r.2).bind fun e2 => some (.tmp q.1, e2)
  | .cmp own t k as tests elt, e => (evos Φ G as e).bind fun r => (resvs r.2 r.1).bind fun ds => (items k ds).bind fun ps =>
      if freeOf r.1 own then
        (compL (fun p acc e2 => (bindP t p e2).bind fun e3 => (evtests Φ G tests e3).bind fun b =>
          if b.1 then (evo Φ G elt b.2).bind fun x => (immO x.1).bind fun q => if lockOk r.1 r.2 x.2 ∧ acc.length < line then some (acc ++ [q], wipeE x.2 own) else none
          else if lockOk r.1 r.2 b.2 then some (acc, wipeE b.2 own) else none) ps [] (wipeE r.2 own)).bind fun z => some (.tmp (.lst z.1), putBack z.2 r.2 own)
      else none
  | .cmp2 own own2 t k as tests t2 k2 as2 tests2 elt, e => (evos Φ G as e).bind fun r => (resvs r.2 r.1).bind fun ds => (items k ds).bind fun ps =>
      if freeOf r.1 own then
        (compL (fun p acc e2 => (bindP t p e2).bind fun e3 => (evtests Φ G tests e3).bind fun b =>
          if b.1 then (evos Φ G as2 b.2).bind fun r2 => (resvs r2.2 r2.1).bind fun ds2 => (items k2 ds2).bind fun ps2 =>
            if freeOf r2.1 own ∧ lockOk r.1 r.2 r2.2 then
              (compL (fun p2 acc2 e6 => (bindP t2 p2 e6).bind fun e7 => (evtests Φ G tests2 e7).bind fun b2 =>
                if b2.1 then (evo Φ G elt b2.2).bind fun x => (immO x.1).bind fun q => if lockOk r2.1 r2.2 x.2 ∧ lockOk r.1 r.2 x.2 ∧ acc2.length < line then some (acc2 ++ [q], wipeE x.2 own2) else none
                else if lockOk r2.1 r2.2 b2.2 ∧ lockOk r.1 r.2 b2.2 then some (acc2, wipeE b2.2 own2) else none) ps2 acc (wipeE r2.2 own2)).bind fun z => some (z.1, wipeE z.2 own)
            else none
          else if lockOk r.1 r.2 b.2 then some (acc, wipeE b.2 own) else none) ps [] (wipeE r.2 own)).bind fun z => some (.tmp (.lst z.1), putBack z.2 r.2 own)
      else none
  | .frz a, e => (evo Φ G a e).bind fun x => (frzSem x.1 x.2).bind fun q => some (.tmp (.imm q.1), q.2)
def evos (Φ : CallS) (G : List P) : List E → M (List Opd)
  | [], e => some ([], e)
  | a :: as, e => (evo Φ G a e).bind fun x => (evos Φ G as x.2).bind fun xs => some (x.1 :: xs.1, xs.2)
def evopt (Φ : CallS) (G : List P) : Option E → M (Option Int)
  | none, e => some (none, e)
  | some a, e => (evo Φ G a e).bind fun x => (intO x.1).bind fun i => some (some i, x.2)
def evand (Φ : CallS) (G : List P) : List E → M Opd
  | [], _ => none
  | a :: as, e => (match as with
    | [] => evo Φ G a e
    | _ :: _ => (evo Φ G a e).bind fun x => (resv x.2 x.1).bind fun d => (truth d).bind fun b => if b then evand Φ G as x.2 else some x)
def evor (Φ : CallS) (G : List P) : List E → M Opd
  | [], _ => none
  | a :: as, e => (match as with
    | [] => evo Φ G a e
    | _ :: _ => (evo Φ G a e).bind fun x => (resv x.2 x.1).bind fun d => (truth d).bind fun b => if b then some x else evor Φ G as x.2)
def evtests (Φ : CallS) (G : List P) : List E → M Bool
  | [], e => some (true, e)
  | a :: as, e => (match as with
    | [] => (evo Φ G a e).bind fun x => (resv x.2 x.1).bind fun d => (truth d).bind fun b => some (b, x.2)
    | _ :: _ => none)
end
/-! ### statements -/
def whlL (step : En → Option (Bool × Fl × En)) : Nat → En → Option (Fl × En)
  | 0, _ => none
  | n + 1, e => (step e).bind fun r => if r.1 then (match r.2.1 with
      | .nx => whlL step n r.2.2
      | .ct => whlL step n r.2.2
      | .bk => some (.nx, r.2.2)
      | .rt d => some (.rt d, r.2.2)) else some (.nx, r.2.2)
def forL (step : P → En → Option (Fl × En)) (ok : En → Bool) : List P → En → Option (Fl × En)
  | [], e => some (.nx, e)
  | p :: ps, e => (step p e).bind fun r => match r.1 with
      | .nx => if ok r.2 then forL step ok ps r.2 else none
      | .ct => if ok r.2 then forL step ok ps r.2 else none
      | .bk => some (.nx, r.2)
      | .rt d => some (.rt d, r.2)
def stoSem (i : Nat) (k : P) (p : P) (e : En) : Option En := match getE e i, k with
  | some (.lst xs), .int j => (ixP xs.length j).bind fun n => some (e.set i (some (.lst (xs.set n p))))
  | _, _ => none
def asgD (t : Pat) (o : Opd) (e : En) : Option En := match o with
  | .tmp (.imm p) => bindP t p e
  | .tmp (.lst ps) => (match t with
    | .nm i => some (e.set i (some (.lst ps)))
    | .tp _ => none)
  | .slot _ => none
def setAll : List Nat → List Opd → En → Option En
  | [], [], e => some e
  | i :: is, .tmp d :: os, e => setAll is os (e.set i (some d))
  | _, _, _ => none
def retD (o : Opd) (e : En) : Option (Fl × En) := match o with
  | .tmp d => some (.rt d, e)
  | .slot i => (getE e i).bind fun d => some (.rt d, e.set i none)
/-- x op= y -/
def augSem (o : Op) (x y : D) : Option D := match o, x, y with
  | .add, .imm (.int a), .imm (.int b) => ii (a + b)
  | .add, .imm (.str a), .imm (.str b) => if a.length + b.length ≤ line then some (.imm (.str (a ++ b))) else none
  | .sub, .imm (.int a), .imm (.int b) => ii (a - b)
  | _, _, _ => none
/- the names that a statement gives anew -/
mutual
def asgP : Pat → List Nat
  | .nm i => [i]
  | .tp ts => asgPs ts
def asgPs : List Pat → List Nat
  | [] => []
  | t :: ts => asgP t ++ asgPs ts
end
mutual
def asgT : T → List Nat
  | .asg t _ => asgP t
  | .par is _ => is
  | .aug i _ _ => [i]
  | .ifs _ a b => asgTs a ++ asgTs b
  | .fors t _ _ body => asgP t ++ asgTs body
  | .whl _ _ body => asgTs body
  | _ => []
def asgTs : List T → List Nat
  | [] => []
  | a :: as => asgT a ++ asgTs as
end
mutual
def ex (Φ : CallS) (G : List P) : T → En → Option (Fl × En)
  | .asg t a, e => (evo Φ G a e).bind fun x => (asgD t x.1 x.2).bind fun e' => some (.nx, e')
  | .par is es, e => (evos Φ G es e).bind fun r => (setAll is r.1 r.2).bind fun e' => some (.nx, e')
  | .aug i o a, e => (nmSem i e).bind fun u => (evo Φ G a e).bind fun y => (resvs y.2 [u, y.1]).bind fun ds => (match ds with
      | [du, dy] => augSem o du dy
      | _ => none).bind fun d => some (.nx, y.2.set i (some d))
  | .sto i k a, e => (evo Φ G a e).bind fun x => (immO x.1).bind fun p => (getE x.2 i).bind fun _ => (evo Φ G k x.2).bind fun y => (immO y.1).bind fun q => (stoSem i q p y.2).bind fun e' => some (.nx, e')
  | .augs _ _ _ _, _ => none
  | .ex a, e => (evo Φ G a e).bind fun x => some (.nx, x.2)
  | .ret a, e => (evo Φ G a e).bind fun x => retD x.1 x.2
  | .ret0, e => some (.rt (.imm .non), e)
  | .ifs t a b, e => (evo Φ G t e).bind fun x => (resv x.2 x.1).bind fun d => (truth d).bind fun k => if k then exs Φ G a x.2 else exs Φ G b x.2
  | .fors t k as body, e => (evos Φ G as e).bind fun r => (resvs r.2 r.1).bind fun ds => (items k ds).bind fun ps =>
      if freeOf r.1 (asgP t ++ asgTs body) then forL (fun p e2 => (bindP t p e2).bind fun e3 => exs Φ G body e3) (fun e' => lockOk r.1 r.2 e') ps r.2 else none
  | .whl n t body, e => whlL (fun e => (evo Φ G t e).bind fun x => (resv x.2 x.1).bind fun d => (truth d).bind fun k => if k then (exs Φ G body x.2).bind fun r => some (true, r.1, r.2) else some (false, .nx, x.2)) n e
  | .brk, e => some (.bk, e)
  | .cont, e => some (.ct, e)
  | .pass, e => some (.nx, e)
  | .never, _ => none
def exs (Φ : CallS) (G : List P) : List T → En → Option (Fl × En)
  | [], e => some (.nx, e)
  | a :: as, e => (ex Φ G a e).bind fun r => match r.1 with
      | .nx => exs Φ G as r.2
      | f => some (f, r.2)
end
/-! ### functions -/
structure Fn where
  np : Nat
  n : Nat
  body : List T
/-- what stands at a parameter behind the call: i its place, as the argument was -/
def outs (asg : List Nat) (e : En) : List D → Nat → Option (List D)
  | [], _ => some []
  | d :: ds, i => (match d with
    | .imm _ => some d
    | .lst _ => if asg.contains i then none else getE e i).bind fun r => (outs asg e ds (i + 1)).bind fun rs => some (r :: rs)
def callF (prog : List Fn) (G : List P) : Nat → CallS
  | 0, _, _ => none
  | k + 1, f, args => (prog[f]?).bind fun fn => if args.length = fn.np then
      (exs (callF prog G k) G fn.body (args.map some ++ List.replicate (fn.n - fn.np) none)).bind fun r => match r.1 with
        | .nx => (outs (asgTs fn.body) r.2 args 0).bind fun rs => some (.imm .non, rs)
        | .rt d => (outs (asgTs fn.body) r.2 args 0).bind fun rs => some (d, rs)
        | _ => none
      else none
end Sw
/-! Sw, part 3: frames for operands, names and ends. -/
namespace Sw
open PySem PySem.Spec PyProof.Rows L2
section
variable {K : PySem.W.Frag} {H H1 H2 H3 H' : Hp}
inductive PkAll (K : PySem.W.Frag) (H : Hp) : List V → List D → Prop
  | nil : PkAll K H [] []
  | cons {v : V} {vs : List V} {d : D} {ds : List D} : (∃ F, Rep K H v d F) → PkAll K H vs ds → PkAll K H (v :: vs) (d :: ds)
/-- an operand: a value of its own, or what a name holds -/
def ORep (K : PySem.W.Frag) (H : Hp) (σ : L2.St) (v : V) (o : Opd) (F : List Addr) : Prop := match o with
  | .tmp d => Rep K H v d F
  | .slot i => σ[i]? = some (some v) ∧ F = []
inductive ORs (K : PySem.W.Frag) (H : Hp) (σ : L2.St) : List V → List Opd → List Addr → Prop
  | nil : ORs K H σ [] [] []
  | cons {v : V} {vs : List V} {o : Opd} {os : List Opd} {F G : List Addr} : ORep K H σ v o F → ORs K H σ vs os G → ORs K H σ (v :: vs) (o :: os) (F ++ G)
theorem ORep.mut {σ : L2.St} {v : V} {o : Opd} {F : List Addr} (h : ORep K H σ v o F) : MutF H F := by
  cases o with
  | tmp d => exact Rep.mut (show Rep K H v d F from h)
  | slot i => obtain ⟨_, e⟩ := (show σ[i]? = some (some v) ∧ F = [] from h); subst e; intro a z; cases z
theorem ORep.mono {σ : L2.St} {v : V} {o : Opd} {F : List Addr} (h : ORep K H σ v o F) (k : Keeps H H') (hf : ∀ a ∈ F, H' a = H a) : ORep K H' σ v o F := by
  cases o with
  | tmp d => exact Rep.mono (show Rep K H v d F from h) k hf
  | slot i => exact h
theorem ORs.mut {σ : L2.St} {vs : List V} {os : List Opd} {F : List Addr} (h : ORs K H σ vs os F) : MutF H F := by
  induction h with
  | nil => intro a z; cases z
  | cons r _ ih => exact r.mut.append ih
theorem ORs.mono {σ : L2.St} {vs : List V} {os : List Opd} {F : List Addr} (h : ORs K H σ vs os F) (k : Keeps H H') (hf : ∀ a ∈ F, H' a = H a) : ORs K H' σ vs os F := by
  induction h with
  | nil => exact .nil
  | cons r _ ih => exact .cons (r.mono k fun a z => hf a (List.mem_append_left _ z)) (ih fun a z => hf a (List.mem_append_right _ z))

/-! ### lists of addresses -/
theorem nd_left {F G : List Addr} (h : (F ++ G).Nodup) : F.Nodup := (List.nodup_append.mp h).1
theorem nd_right {F G : List Addr} (h : (F ++ G).Nodup) : G.Nodup := (List.nodup_append.mp h).2.1
theorem nd_off {F G : List Addr} (h : (F ++ G).Nodup) : ∀ a ∈ F, a ∉ G := fun a z y => (List.nodup_append.mp h).2.2 a z a y rfl
theorem nd_mk {F G : List Addr} (a : F.Nodup) (b : G.Nodup) (c : ∀ x ∈ F, x ∉ G) : (F ++ G).Nodup := List.nodup_append.mpr ⟨a, b, fun x hx y hy e => c x hx (e ▸ hy)⟩
/-- a value that waits, and a step of the rest -/
theorem stp_two {F Fd F1 G : List Addr} (s1 : Stp H F H1 (Fd ++ F1)) (n1 : (Fd ++ F1).Nodup) (md : MutF H1 Fd) (s2 : Stp H1 F1 H2 G) (n2 : G.Nodup) : Stp H F H2 (Fd ++ G) ∧ (Fd ++ G).Nodup :=
  ⟨s1.trans (s2.frameL Fd), nd_mk (nd_left n1) n2 (s2.apart md (nd_off n1))⟩
theorem stp_keep {F1 G Fd : List Addr} (s2 : Stp H1 F1 H2 G) (m1 : MutF H1 F1) (md : MutF H1 Fd) (n1 : (Fd ++ F1).Nodup) : Keeps H1 H2 ∧ ∀ a ∈ Fd, H2 a = H1 a :=
  ⟨s2.keeps m1, s2.off md (nd_off n1)⟩
/-- new objects alone, what waited is dropped -/
theorem stp_new {F Fs F2 F3 : List Addr} (s : Stp H F H2 (Fs ++ F2)) (n : (Fs ++ F2).Nodup) (m : MutF H2 F2) (sm : Same H2 H3) (fr : ∀ a ∈ F3, H2 a = none) (n3 : F3.Nodup) : Stp H F H3 (F3 ++ F2) ∧ (F3 ++ F2).Nodup := by
  refine ⟨s.trans ⟨fun a o e _ => sm a o e, fun a z => ?_⟩, nd_mk n3 (nd_right n) fun a z y => ?_⟩
  · rcases List.mem_append.mp z with z | z
    · exact .inr (fr a z)
    · exact .inl (List.mem_append_right _ z)
  · obtain ⟨o, e, _⟩ := m a y
    rw [fr a z] at e; cases e
theorem same_off {F : List Addr} (sm : Same H H') (m : MutF H F) : ∀ a ∈ F, H' a = H a := fun a z => by
  obtain ⟨o, e, _⟩ := m a z
  rw [e, sm a o e]
theorem EnvRep.same {σ : L2.St} {e : En} {F : List Addr} (h : EnvRep K H σ e F) (sm : Same H H') : EnvRep K H' σ e F := h.mono (Keeps.of_same sm) (same_off sm h.mut)
theorem Rep.same {v : V} {d : D} {F : List Addr} (h : Rep K H v d F) (sm : Same H H') : Rep K H' v d F := h.mono (Keeps.of_same sm) (same_off sm h.mut)

/-! ### names -/
theorem EnvRep.len {σ : L2.St} {e : En} {F : List Addr} (h : EnvRep K H σ e F) : σ.length = e.length := by
  induction h with
  | nil => rfl
  | ns _ ih => simp [ih]
  | sm _ _ ih => simp [ih]
theorem getE_nil (i : Nat) : getE [] i = none := by simp [getE]
theorem getE_zero (x : Option D) (e : En) : getE (x :: e) 0 = x := by simp [getE]
theorem getE_succ (x : Option D) (e : En) (i : Nat) : getE (x :: e) (i + 1) = getE e i := by simp [getE]
theorem EnvRep.get {σ : L2.St} {e : En} {F : List Addr} (h : EnvRep K H σ e F) : ∀ {i : Nat} {d : D}, getE e i = some d → ∃ v Fi, σ[i]? = some (some v) ∧ Rep K H v d Fi ∧ ∀ a ∈ Fi, a ∈ F := by
  induction h with
  | nil => intro i d q; rw [getE_nil] at q; cases q
  | ns _ ih =>
    intro i d q
    cases i with
    | zero => rw [getE_zero] at q; cases q
    | succ i =>
      rw [getE_succ] at q
      obtain ⟨v, Fi, h1, h2, h3⟩ := ih q
      exact ⟨v, Fi, by simpa using h1, h2, h3⟩
  | @sm v0 d0 σ0 e0 F0 G0 r _ ih =>
    intro i d q
    cases i with
    | zero =>
      rw [getE_zero] at q
      cases q
      exact ⟨v0, F0, rfl, r, fun a z => List.mem_append_left _ z⟩
    | succ i =>
      rw [getE_succ] at q
      obtain ⟨v, Fi, h1, h2, h3⟩ := ih q
      exact ⟨v, Fi, by simpa using h1, h2, fun a z => List.mem_append_right _ (h3 a z)⟩
theorem EnvRep.setD {σ : L2.St} {e : En} {F Fd : List Addr} {v : V} {d : D} (h : EnvRep K H σ e F) (r : Rep K H v d Fd) : ∀ (i : Nat), ∃ F', EnvRep K H (σ.set i (some v)) (e.set i (some d)) F' ∧ (∀ a ∈ F', a ∈ Fd ∨ a ∈ F) ∧ ((Fd ++ F).Nodup → F'.Nodup) := by
  induction h with
  | nil => intro i; exact ⟨[], .nil, fun a z => .inr z, fun _ => List.nodup_nil⟩
  | @ns x0 σ0 e0 F0 h0 ih =>
    intro i
    cases i with
    | zero => exact ⟨Fd ++ F0, .sm r h0, fun a z => List.mem_append.mp z, fun n => n⟩
    | succ i =>
      obtain ⟨F', h1, h2, h3⟩ := ih i
      exact ⟨F', .ns h1, h2, h3⟩
  | @sm v0 d0 σ0 e0 F0 G0 r0 h0 ih =>
    intro i
    cases i with
    | zero =>
      refine ⟨Fd ++ G0, .sm r h0, fun a z => (List.mem_append.mp z).elim .inl fun z => .inr (List.mem_append_right _ z), fun n => ?_⟩
      refine nd_mk (nd_left n) (nd_right (nd_right n)) fun a z y => nd_off n a z (List.mem_append_right _ y)
    | succ i =>
      obtain ⟨F', h1, h2, h3⟩ := ih i
      refine ⟨F0 ++ F', .sm r0 h1, fun a z => (List.mem_append.mp z).elim (fun z => .inr (List.mem_append_left _ z)) fun z => (h2 a z).elim .inl fun z => .inr (List.mem_append_right _ z), fun n => ?_⟩
      have nG : (Fd ++ G0).Nodup := nd_mk (nd_left n) (nd_right (nd_right n)) fun a z y => nd_off n a z (List.mem_append_right _ y)
      refine nd_mk (nd_left (nd_right n)) (h3 nG) fun a z y => ?_
      rcases h2 a y with q | q
      · exact nd_off n a q (List.mem_append_left _ z)
      · exact nd_off (nd_right n) a z q
theorem EnvRep.setN {σ : L2.St} {e : En} {F : List Addr} (h : EnvRep K H σ e F) : ∀ (i : Nat), ∃ F', EnvRep K H σ (e.set i none) F' ∧ (∀ a ∈ F', a ∈ F) ∧ (F.Nodup → F'.Nodup) := by
  induction h with
  | nil => intro i; exact ⟨[], .nil, fun a z => z, fun _ => List.nodup_nil⟩
  | @ns x0 σ0 e0 F0 h0 ih =>
    intro i
    cases i with
    | zero => exact ⟨F0, .ns h0, fun a z => z, fun n => n⟩
    | succ i =>
      obtain ⟨F', h1, h2, h3⟩ := ih i
      exact ⟨F', .ns h1, h2, h3⟩
  | @sm v0 d0 σ0 e0 F0 G0 r0 h0 ih =>
    intro i
    cases i with
    | zero => exact ⟨G0, .ns h0, fun a z => List.mem_append_right _ z, fun n => nd_right n⟩
    | succ i =>
      obtain ⟨F', h1, h2, h3⟩ := ih i
      refine ⟨F0 ++ F', .sm r0 h1, fun a z => (List.mem_append.mp z).elim (fun z => List.mem_append_left _ z) fun z => List.mem_append_right _ (h2 a z), fun n => ?_⟩
      exact nd_mk (nd_left n) (h3 (nd_right n)) fun a z y => nd_off n a z (h2 a y)
/-- the slot's own value taken out: its objects and those of the others -/
theorem EnvRep.out {σ : L2.St} {e : En} {F : List Addr} (h : EnvRep K H σ e F) : ∀ {i : Nat} {d : D}, getE e i = some d → ∃ v Fi F', σ[i]? = some (some v) ∧ Rep K H v d Fi ∧ EnvRep K H σ (e.set i none) F' ∧ (∀ a, a ∈ Fi ++ F' → a ∈ F) ∧ (F.Nodup → (Fi ++ F').Nodup) := by
  induction h with
  | nil => intro i d q; rw [getE_nil] at q; cases q
  | @ns x0 σ0 e0 F0 h0 ih =>
    intro i d q
    cases i with
    | zero => rw [getE_zero] at q; cases q
    | succ i =>
      rw [getE_succ] at q
      obtain ⟨v, Fi, F', h1, h2, h3, h4, h5⟩ := ih q
      exact ⟨v, Fi, F', by simpa using h1, h2, .ns h3, h4, h5⟩
  | @sm v0 d0 σ0 e0 F0 G0 r h0 ih =>
    intro i d q
    cases i with
    | zero =>
      rw [getE_zero] at q
      cases q
      exact ⟨v0, F0, G0, rfl, r, .ns h0, fun a z => z, fun n => n⟩
    | succ i =>
      rw [getE_succ] at q
      obtain ⟨v, Fi, F', h1, h2, h3, h4, h5⟩ := ih q
      refine ⟨v, Fi, F0 ++ F', by simpa using h1, h2, .sm r h3, fun a z => ?_, fun n => ?_⟩
      · rcases List.mem_append.mp z with z | z
        · exact List.mem_append_right _ (h4 a (List.mem_append_left _ z))
        · rcases List.mem_append.mp z with z | z
          · exact List.mem_append_left _ z
          · exact List.mem_append_right _ (h4 a (List.mem_append_right _ z))
      · have n5 := h5 (nd_right n)
        refine nd_mk (nd_left n5) (nd_mk (nd_left n) (nd_right n5) fun a z y => nd_off n a z (h4 a (List.mem_append_right _ y))) fun a z y => ?_
        rcases List.mem_append.mp y with y | y
        · exact nd_off n a y (h4 a (List.mem_append_left _ z))
        · exact nd_off n5 a z y
/-- .. and put in again, at the same object -/
theorem EnvRep.into {σ : L2.St} {e : En} {F' Fi : List Addr} {v : V} {d : D} : ∀ {i : Nat}, EnvRep K H σ (e.set i none) F' → σ[i]? = some (some v) → Rep K H v d Fi → ∃ F, EnvRep K H σ (e.set i (some d)) F ∧ (∀ a, a ∈ F ↔ a ∈ Fi ++ F') ∧ ((Fi ++ F').Nodup → F.Nodup) := by
  intro i
  induction e generalizing σ F' i with
  | nil => intro h; cases h; intro q; simp at q
  | cons x e ih =>
    intro h q r
    cases i with
    | zero =>
      rw [List.set_cons_zero] at h
      cases h with
      | ns h =>
        simp at q
        subst q
        exact ⟨Fi ++ F', .sm r h, fun a => Iff.rfl, fun n => n⟩
    | succ i =>
      rw [List.set_cons_succ] at h
      cases h with
      | ns h =>
        obtain ⟨F, h1, h2, h3⟩ := ih h (by simpa using q) r
        exact ⟨F, .ns h1, h2, h3⟩
      | @sm v0 d0 σ0 _ F0 G0 r0 h =>
        obtain ⟨F, h1, h2, h3⟩ := ih h (by simpa using q) r
        refine ⟨F0 ++ F, .sm r0 h1, fun a => ?_, fun n => ?_⟩
        · simp only [List.mem_append, h2]
          constructor
          · rintro (h | h | h)
            · exact .inr (.inl h)
            · exact .inl h
            · exact .inr (.inr h)
          · rintro (h | h | h)
            · exact .inr (.inl h)
            · exact .inl h
            · exact .inr (.inr h)
        · have n1 : (Fi ++ G0).Nodup := nd_mk (nd_left n) (nd_right (nd_right n)) fun a z y => nd_off n a z (List.mem_append_right _ y)
          refine nd_mk (nd_left (nd_right n)) (h3 n1) fun a z y => ?_
          rcases List.mem_append.mp ((h2 a).mp y) with y | y
          · exact nd_off n a y (List.mem_append_left _ z)
          · exact nd_off (nd_right n) a z y
theorem getE_lt {e : En} {i : Nat} {d : D} (h : getE e i = some d) : i < e.length := by
  unfold getE at h
  cases q : e[i]? with
  | none => rw [q] at h; cases h
  | some x => exact (List.getElem?_eq_some_iff.mp q).1
theorem getE_set (e : En) (i : Nat) (x : Option D) (h : i < e.length) : getE (e.set i x) i = x := by
  unfold getE
  rw [List.getElem?_set_self h] <;> rfl
theorem getE_set_ne (e : En) {i j : Nat} (x : Option D) (h : i ≠ j) : getE (e.set i x) j = getE e j := by
  unfold getE
  rw [List.getElem?_set_ne h]
/-- a name's list, written -/
theorem EnvRep.write {σ : L2.St} {e : En} {F : List Addr} (h : EnvRep K H σ e F) (n : F.Nodup) {i : Nat} {xs : List P} (q : getE e i = some (.lst xs)) :
    ∃ a vs, σ[i]? = some (some (.ref a)) ∧ H a = some (.lst vs) ∧ PReps K H vs xs ∧ a ∈ F ∧ ∀ vs' ys, PReps K H vs' ys → ∃ F', EnvRep K (upd H a (.lst vs')) σ (e.set i (some (.lst ys))) F' ∧ F'.Nodup ∧ (∀ b, b ∈ F' → b ∈ F) ∧ Stp H F (upd H a (.lst vs')) F' := by
  obtain ⟨v, Fi, F', h1, h2, h3, h4, h5⟩ := h.out q
  cases h2 with
  | @lst a vs _ e0 r =>
    have n5 := h5 n
    have aF : a ∈ F := h4 a (List.mem_append_left _ (List.mem_singleton.mpr rfl))
    refine ⟨a, vs, h1, e0, r, aF, fun vs' ys r' => ?_⟩
    have kp : Keeps H (upd H a (.lst vs')) := fun b o e st => by
      rw [upd_ne (fun z => by subst z; rw [e0] at e; cases e; exact st trivial)]; exact e
    have h3' : EnvRep K (upd H a (.lst vs')) σ (e.set i none) F' := h3.mono kp fun b z => upd_ne fun y => by
      subst y
      exact nd_off n5 b (List.mem_singleton.mpr rfl) z
    obtain ⟨F2, g1, g2, g3⟩ := h3'.into h1 (Rep.lst (a := a) upd_same (r'.keep kp))
    have sub : ∀ b, b ∈ F2 → b ∈ F := fun b z => h4 b ((g2 b).mp z)
    refine ⟨F2, g1, g3 n5, sub, ⟨fun b o e z => ?_, fun b z => .inl (sub b z)⟩⟩
    rw [upd_ne (fun y : b = a => z (by rw [y]; exact aF))]
    exact e
/-- operands and names, read -/
theorem resv_ok {σ : L2.St} {e : En} {F Fd : List Addr} {v : V} {o : Opd} {d : D} (he : EnvRep K H σ e F) (r : ORep K H σ v o Fd) (q : resv e o = some d) : ∃ F, Rep K H v d F := by
  cases o with
  | tmp d' =>
    cases q
    exact ⟨Fd, r⟩
  | slot i =>
    obtain ⟨hi, _⟩ := (show σ[i]? = some (some v) ∧ Fd = [] from r)
    obtain ⟨v', Fi, h1, h2, _⟩ := he.get (show getE e i = some d from q)
    rw [hi] at h1
    cases h1
    exact ⟨Fi, h2⟩
theorem resvs_ok {σ : L2.St} {e : En} {F : List Addr} (he : EnvRep K H σ e F) : ∀ {vs : List V} {os : List Opd} {Fd : List Addr} {ds : List D}, ORs K H σ vs os Fd → resvs e os = some ds → PkAll K H vs ds := by
  intro vs os Fd ds h
  induction h generalizing ds with
  | nil => intro q; cases q; exact .nil
  | @cons v vs o os F0 G0 r _ ih =>
    intro q
    unfold resvs at q
    cases q1 : resv e o with
    | none => rw [q1] at q; cases q
    | some d =>
      rw [q1] at q
      cases q2 : resvs e os with
      | none => rw [q2] at q; cases q
      | some ds' =>
        rw [q2] at q
        cases q
        exact .cons (resv_ok he r q1) (ih q2)
theorem Rep.imm_of {v : V} {p : P} {F : List Addr} (h : Rep K H v (.imm p) F) : PRep K H v p ∧ F = [] := by
  cases h with
  | imm r => exact ⟨r, rfl⟩
theorem immOs_ok {σ : L2.St} : ∀ {vs : List V} {os : List Opd} {Fd : List Addr} {ps : List P}, ORs K H σ vs os Fd → immOs os = some ps → PReps K H vs ps ∧ Fd = [] := by
  intro vs os Fd ps h
  induction h generalizing ps with
  | nil => intro q; cases q; exact ⟨.nil, rfl⟩
  | @cons v vs o os F0 G0 r _ ih =>
    intro q
    unfold immOs at q
    cases q1 : immO o with
    | none => rw [q1] at q; cases q
    | some p =>
      rw [q1] at q
      cases q2 : immOs os with
      | none => rw [q2] at q; cases q
      | some ds' =>
        rw [q2] at q
        cases q
        obtain ⟨h1, h2⟩ := ih q2
        cases o with
        | slot _ => cases q1
        | tmp d =>
          cases d with
          | lst _ => cases q1
          | imm p' =>
            cases q1
            obtain ⟨g1, g2⟩ := Rep.imm_of (show Rep K H v (.imm p) F0 from r)
            exact ⟨.cons g1 h1, by rw [g2, h2] <;> rfl⟩
theorem immO_ok {σ : L2.St} {v : V} {o : Opd} {Fd : List Addr} {p : P} (r : ORep K H σ v o Fd) (q : immO o = some p) : PRep K H v p ∧ Fd = [] := by
  cases o with
  | slot _ => cases q
  | tmp d =>
    cases d with
    | lst _ => cases q
    | imm p' => cases q; exact Rep.imm_of r
end

/-! ### readings -/
/-- an expression's -/
def tO (K : PySem.W.Frag) (f : M Opd) : TE := fun σ H Q => ∃ e F o e', EnvRep K H σ e F ∧ F.Nodup ∧ f e = some (o, e') ∧
  ∀ v H' Fd F', ORep K H' σ v o Fd → EnvRep K H' σ e' F' → (Fd ++ F').Nodup → Stp H F H' (Fd ++ F') → Q v H'
def tOs (K : PySem.W.Frag) (f : M (List Opd)) : TA := fun σ H Q => ∃ e F o e', EnvRep K H σ e F ∧ F.Nodup ∧ f e = some (o, e') ∧
  ∀ v H' Fd F', ORs K H' σ v o Fd → EnvRep K H' σ e' F' → (Fd ++ F').Nodup → Stp H F H' (Fd ++ F') → Q v H'
/-- a test's -/
def tB (K : PySem.W.Frag) (f : M Bool) : TT := fun σ H Q => ∃ e F b e', EnvRep K H σ e F ∧ F.Nodup ∧ f e = some (b, e') ∧
  ∀ H' F', EnvRep K H' σ e' F' → F'.Nodup → Stp H F H' F' → Q b H'
theorem PE.weak {X : Cx} {e : Expr} {t t' : TE} (h : PE X e t) (w : ∀ σ H Q, t' σ H Q → t σ H Q) : PE X e t' := ⟨fun pins s σ H Q I q => h.run pins s σ H Q I (w σ H Q q)⟩
theorem PA.weak {X : Cx} {e : List Expr} {t t' : TA} (h : PA X e t) (w : ∀ σ H Q, t' σ H Q → t σ H Q) : PA X e t' := ⟨fun p pins s σ H Q I q => h.run p pins s σ H Q I (w σ H Q q)⟩
theorem PT.weak {X : Cx} {e : Expr} {t t' : TT} (h : PT X e t) (w : ∀ σ H Q, t' σ H Q → t σ H Q) : PT X e t' := ⟨fun pins s σ H Q I q => h.run pins s σ H Q I (w σ H Q q)⟩
theorem PS.weak {X : Cx} {e : Stmt} {t t' : TS} (h : PS X e t) (w : ∀ D σ H, t' D σ H → t D σ H) : PS X e t' := ⟨fun pins s σ H D I q => h.run pins s σ H D I (w D σ H q)⟩
theorem PSs.weak {X : Cx} {e : List Stmt} {t t' : TS} (h : PSs X e t) (w : ∀ D σ H, t' D σ H → t D σ H) : PSs X e t' := ⟨fun pins s σ H D I q => h.run pins s σ H D I (w D σ H q)⟩
/-- two in a row: a value waits -/
theorem tO_bind {K : PySem.W.Frag} {f : M Opd} {σ : L2.St} {H : Hp} {Q : VK} {e e1 : En} {F : List Addr} {o : Opd} (he : EnvRep K H σ e F) (n : F.Nodup) (hf : f e = some (o, e1))
    (h : ∀ v H1 Fd F1, ORep K H1 σ v o Fd → EnvRep K H1 σ e1 F1 → (Fd ++ F1).Nodup → Stp H F H1 (Fd ++ F1) → Q v H1) : tO K f σ H Q := ⟨e, F, o, e1, he, n, hf, h⟩
/-- the ops on values: whatever they make is new -/
def OpOk (K : PySem.W.Frag) (r : List V → Hp → VK → Prop) (f : List D → Option D) : Prop :=
  ∀ vs ds H Q d, PkAll K H vs ds → f ds = some d → (∀ v H' F, Same H H' → Rep K H' v d F → (∀ a ∈ F, H a = none) → F.Nodup → Q v H') → r vs H Q
/-- operands, then an op -/
theorem ops_end {K : PySem.W.Frag} {r : List V → Hp → VK → Prop} {g : List D → Option D} (ok : OpOk K r g) {σ : L2.St} {H H2 : Hp} {Q : VK} {F Fs F2 : List Addr} {vs : List V} {os : List Opd} {e2 : En} {ds : List D} {d : D}
    (rs : ORs K H2 σ vs os Fs) (he : EnvRep K H2 σ e2 F2) (n : (Fs ++ F2).Nodup) (s : Stp H F H2 (Fs ++ F2)) (hr : resvs e2 os = some ds) (hg : g ds = some d)
    (hQ : ∀ v H' Fd F', ORep K H' σ v (.tmp d) Fd → EnvRep K H' σ e2 F' → (Fd ++ F').Nodup → Stp H F H' (Fd ++ F') → Q v H') : r vs H2 Q := by
  refine ok vs ds H2 Q d (resvs_ok he rs hr) hg fun v H3 F3 sm rp fr n3 => ?_
  obtain ⟨s3, n3'⟩ := stp_new s n he.mut sm fr n3
  exact hQ v H3 F3 F2 rp (he.same sm) n3' s3
theorem bind_some {α β : Type} {x : Option α} {f : α → Option β} {b : β} (h : x.bind f = some b) : ∃ a, x = some a ∧ f a = some b := by
  cases x with
  | none => cases h
  | some a => exact ⟨a, rfl, h⟩
end Sw
set_option maxHeartbeats 1000000
/-! Sw, part 4: the operators by values. -/
namespace Sw
open PySem PySem.Spec PyProof.Rows L2
section
variable {K : PySem.W.Frag} {H : Hp}
def r2n (r : R2) : List V → Hp → VK → Prop := fun vs H Q => ∃ x y, vs = [x, y] ∧ r x y H Q
def r1n (r : V → Hp → VK → Prop) : List V → Hp → VK → Prop := fun vs H Q => ∃ x, vs = [x] ∧ r x H Q
theorem PkAll.one {vs : List V} {d : D} (h : PkAll K H vs [d]) : ∃ v F, vs = [v] ∧ Rep K H v d F := by
  cases h with
  | cons a b => cases b; obtain ⟨F, a⟩ := a; exact ⟨_, F, rfl, a⟩
theorem PkAll.two {vs : List V} {d e : D} (h : PkAll K H vs [d, e]) : ∃ v u F G, vs = [v, u] ∧ Rep K H v d F ∧ Rep K H u e G := by
  cases h with
  | cons a b => cases b with
    | cons b c => cases c; obtain ⟨F, a⟩ := a; obtain ⟨G, b⟩ := b; exact ⟨_, _, F, G, rfl, a, b⟩
theorem PkAll.three {vs : List V} {d e f : D} (h : PkAll K H vs [d, e, f]) : ∃ v u w F G L, vs = [v, u, w] ∧ Rep K H v d F ∧ Rep K H u e G ∧ Rep K H w f L := by
  cases h with
  | cons a b => cases b with
    | cons b c => cases c with
      | cons c d => cases d; obtain ⟨F, a⟩ := a; obtain ⟨G, b⟩ := b; obtain ⟨L, c⟩ := c; exact ⟨_, _, _, F, G, L, rfl, a, b, c⟩
theorem Rep.int_of {v : V} {i : Int} {F : List Addr} (h : Rep K H v (.imm (.int i)) F) : v = .int i := by
  obtain ⟨h, _⟩ := h.imm_of; cases h; rfl
theorem Rep.bl_of {v : V} {i : Bool} {F : List Addr} (h : Rep K H v (.imm (.bl i)) F) : v = .bl i := by
  obtain ⟨h, _⟩ := h.imm_of; cases h; rfl
theorem Rep.str_of {v : V} {s : List Nat} {F : List Addr} (h : Rep K H v (.imm (.str s)) F) : v = .str (sOf s) ∧ chrOk s = true := by
  obtain ⟨h, _⟩ := h.imm_of; cases h with | str _ c => exact ⟨rfl, c⟩
theorem Rep.tup_of {v : V} {ps : List P} {F : List Addr} (h : Rep K H v (.imm (.tup ps)) F) : ∃ a xs, v = .ref a ∧ SqT K H a xs ∧ PReps K H xs ps := by
  obtain ⟨h, _⟩ := h.imm_of; cases h with | tup a b => exact ⟨_, _, rfl, a, b⟩
theorem Rep.flst_of {v : V} {ps : List P} {F : List Addr} (h : Rep K H v (.imm (.lst ps)) F) : ∃ a xs, v = .ref a ∧ FzL K H a xs ∧ PReps K H xs ps := by
  obtain ⟨h, _⟩ := h.imm_of; cases h with | lst a b => exact ⟨_, _, rfl, a, b⟩
theorem Rep.lst_of {v : V} {ps : List P} {F : List Addr} (h : Rep K H v (.lst ps) F) : ∃ a xs, v = .ref a ∧ H a = some (.lst xs) ∧ PReps K H xs ps ∧ F = [a] := by
  cases h with | lst a b => exact ⟨_, _, rfl, a, b, rfl⟩
/-- a list or tuple, owned or not, for reading -/
theorem Rep.seq_of {v : V} {d : D} {F : List Addr} {ps : List P} (h : Rep K H v d F) (e : elems d = some ps) (ns : ∀ s, d ≠ .imm (.str s)) : ∃ a xs, v = .ref a ∧ (SqL K H a xs ∨ SqT K H a xs) ∧ PReps K H xs ps := by
  cases d with
  | lst qs =>
    obtain ⟨a, xs, h1, h2, h3, _⟩ := h.lst_of
    cases e
    exact ⟨a, xs, h1, .inl (SqL.of h2), h3⟩
  | imm p =>
    cases p with
    | tup qs =>
      obtain ⟨a, xs, h1, h2, h3⟩ := h.tup_of
      cases e
      exact ⟨a, xs, h1, .inr h2, h3⟩
    | lst qs =>
      obtain ⟨a, xs, h1, h2, h3⟩ := h.flst_of
      cases e
      exact ⟨a, xs, h1, .inl h2.sql, h3⟩
    | str s => exact absurd rfl (ns s)
    | _ => cases e
theorem sizeLine_is : (sizeLine : Nat) = 16777216 := by decide
theorem le_line {n : Nat} (h : n ≤ line) : n ≤ sizeLine := by rw [sizeLine_is]; exact h
theorem lt_line {n : Nat} (h : n < line) : n < sizeLine := by rw [sizeLine_is]; exact h
theorem fin_imm {r : Prop} {Q : VK} {p : P} {v : V} (hQ : ∀ v H' F, Same H H' → Rep K H' v (.imm p) F → (∀ a ∈ F, H a = none) → F.Nodup → Q v H') (h : PRep K H v p) : Q v H :=
  hQ v H [] (Same.refl H) (.imm h) (fun a z => nomatch z) List.nodup_nil
theorem same_new {a : Addr} {o : HO} (h : H a = none) : Same H (upd H a o) := fun b x e => by rw [upd_ne (ne_of_none e h)]; exact e
/-- a new tuple -/
theorem fin_tup {Q : VK} {ps : List P} {xs : List V} {a : Addr} (hQ : ∀ v H' F, Same H H' → Rep K H' v (.imm (.tup ps)) F → (∀ a ∈ F, H a = none) → F.Nodup → Q v H') (n : H a = none) (h : PReps K H xs ps) : Q (.ref a) (upd H a (.tup xs)) :=
  hQ _ _ [] (same_new n) (.imm (.tup (SqT.of upd_same) (h.keep (Keeps.of_same (same_new n))))) (fun a z => nomatch z) List.nodup_nil
theorem fin_lst {Q : VK} {ps : List P} {xs : List V} {a : Addr} (hQ : ∀ v H' F, Same H H' → Rep K H' v (.lst ps) F → (∀ a ∈ F, H a = none) → F.Nodup → Q v H') (n : H a = none) (h : PReps K H xs ps) : Q (.ref a) (upd H a (.lst xs)) :=
  hQ _ _ [a] (same_new n) (.lst upd_same (h.keep (Keeps.of_same (same_new n)))) (fun b z => by rw [List.mem_singleton.mp z]; exact n) (by simp)

/-! ### == -/
theorem toPys_map : ∀ xs, toPys xs = xs.map toPy
  | [] => rfl
  | x :: xs => by rw [toPys, List.map_cons, toPys_map xs]
mutual
theorem PRep.dp : ∀ {p : P} {v : V}, PRep K H v p → Dp K H v (toPy p)
  | .non, _, h => by cases h; exact .non
  | .bl b, _, h => by cases h; exact .bl b
  | .int i, _, h => by cases h; exact .int i
  | .str s, _, h => by cases h; exact .str _
  | .tup ps, _, h => by cases h with | tup a b => exact .tup a (PReps.dp b)
  | .lst ps, _, h => by cases h with | lst a b => exact .lst a.sql (PReps.dp b)
theorem PReps.dp : ∀ {ps : List P} {vs : List V}, PReps K H vs ps → DpAll K H vs (toPys ps)
  | [], _, h => by cases h; exact .nil
  | p :: ps, _, h => by cases h with | cons a b => exact .cons (PRep.dp a) (PReps.dp b)
end
theorem Rep.dp {v : V} {d : D} {F : List Addr} (h : Rep K H v d F) : Dp K H v (toPy (rd d)) := by
  cases h with
  | imm h => exact h.dp
  | lst e r => exact .lst (SqL.of e) r.dp
mutual
theorem PRep.lay : ∀ {p : P} {v : V}, PRep K H v p → (toPy p).canLay0 = true
  | .non, _, _ => by simp [toPy, PyData.canLay0]
  | .bl b, _, _ => by simp [toPy, PyData.canLay0]
  | .int i, _, _ => by simp [toPy, PyData.canLay0]
  | .str s, _, h => by
    cases h with
    | str _ c =>
      simp only [toPy, PyData.canLay0, PyData.strOk, sOf]
      rw [← Array.all_toList]
      exact c
  | .tup ps, _, h => by cases h with | tup a b => simp only [toPy, PyData.canLay0]; exact PReps.lay b
  | .lst ps, _, h => by cases h with | lst a b => simp only [toPy, PyData.canLay0]; exact PReps.lay b
theorem PReps.lay : ∀ {ps : List P} {vs : List V}, PReps K H vs ps → PyData.canLayAll0 (toPys ps) = true
  | [], _, _ => by simp [toPys, PyData.canLayAll0]
  | p :: ps, _, h => by cases h with | cons a b => simp [toPys, PyData.canLayAll0, PRep.lay a, PReps.lay b]
end
mutual
theorem depth_py : ∀ p : P, (toPy p).depth = depth p
  | .non => by simp [toPy, PyData.depth, depth]
  | .bl b => by simp [toPy, PyData.depth, depth]
  | .int i => by simp [toPy, PyData.depth, depth]
  | .str s => by simp [toPy, PyData.depth, depth]
  | .tup ps => by simp [toPy, PyData.depth, depth, depths_py ps]
  | .lst ps => by simp [toPy, PyData.depth, depth, depths_py ps]
theorem depths_py : ∀ ps : List P, PyData.depthAll (toPys ps) = depths ps
  | [] => by simp [toPys, PyData.depthAll, depths]
  | p :: ps => by simp [toPys, PyData.depthAll, depths, depth_py p, depths_py ps]
end
theorem Rep.lay {v : V} {d : D} {F : List Addr} (h : Rep K H v d F) : (toPy (rd d)).canLay0 = true := by
  cases h with
  | imm h => exact h.lay
  | lst e r => simp only [rd, toPy, PyData.canLay0]; exact r.lay
theorem sOf_eq (a b : List Nat) : (sOf a == sOf b) = (a == b) := by
  by_cases h : a = b
  · subst h; simp
  · have : sOf a ≠ sOf b := fun e => h (sOf_inj e)
    rw [beq_eq_false_iff_ne.mpr this, beq_eq_false_iff_ne.mpr h]
mutual
theorem eqv_py : ∀ p q : P, PyData.eqv (toPy p) (toPy q) = peq p q
  | .non, q => by cases q <;> simp [toPy, PyData.eqv, peq]
  | .bl b, q => by cases q <;> simp [toPy, PyData.eqv, peq]
  | .int i, q => by cases q <;> simp [toPy, PyData.eqv, peq]
  | .str s, q => by cases q <;> simp [toPy, PyData.eqv, peq, sOf_eq]
  | .tup ps, q => by
    cases q with
    | tup qs => simp [toPy, PyData.eqv, peq, eqvs_py ps qs]
    | _ => simp [toPy, PyData.eqv, peq]
  | .lst ps, q => by
    cases q with
    | lst qs => simp [toPy, PyData.eqv, peq, eqvs_py ps qs]
    | _ => simp [toPy, PyData.eqv, peq]
theorem eqvs_py : ∀ ps qs : List P, PyData.eqvAll (toPys ps) (toPys qs) = peqs ps qs
  | [], qs => by cases qs <;> simp [toPys, PyData.eqvAll, peqs]
  | p :: ps, qs => by
    cases qs with
    | nil => simp [toPys, PyData.eqvAll, peqs]
    | cons q qs => simp [toPys, PyData.eqvAll, peqs, eqv_py p q, eqvs_py ps qs]
end
/-- == of any two: the deeper one may be of any depth -/
def rEqP (K : PySem.W.Frag) : R2 := fun x y H Q => ∃ d e, Dp K H x d ∧ Dp K H y e ∧ d.canLay0 = true ∧ e.canLay0 = true ∧ min d.depth e.depth ≤ 60 ∧ Q (.bl (PyData.eqv d e)) H
def rNeP (K : PySem.W.Frag) : R2 := fun x y H Q => ∃ d e, Dp K H x d ∧ Dp K H y e ∧ d.canLay0 = true ∧ e.canLay0 = true ∧ min d.depth e.depth ≤ 60 ∧ Q (.bl (!PyData.eqv d e)) H
theorem op_eqP {X : Cx} (hu : X.A.units + 64 < cLine) : OpR X (compareOp .Eq) (rEqP X.K) := by
  intro pins s σ H x y v u Q I rx ry h
  obtain ⟨d, e, hd, he, sd, se, hm, q⟩ := h
  obtain ⟨as, r1⟩ := Dp.reads I d x v hd rx
  obtain ⟨bs, r2⟩ := Dp.reads I e y u he ry
  exact SeqAt.compareEq_reads r1 r2 sd se (by omega) ⟨.bl _, H, I, rfl, q⟩
theorem op_neP {X : Cx} (hu : X.A.units + 64 < cLine) : OpR X (compareOp .NotEq) (rNeP X.K) := by
  intro pins s σ H x y v u Q I rx ry h
  obtain ⟨d, e, hd, he, sd, se, hm, q⟩ := h
  obtain ⟨as, r1⟩ := Dp.reads I d x v hd rx
  obtain ⟨bs, r2⟩ := Dp.reads I e y u he ry
  exact SeqAt.compareNe_reads r1 r2 sd se (by omega) ⟨.bl _, H, I, rfl, q⟩
theorem ib_inv {b : Bool} {d : D} (h : ib b = some d) : d = .imm (.bl b) := by unfold ib at h; exact (Option.some.inj h).symm
theorem ii_inv {b : Int} {d : D} (h : ii b = some d) : d = .imm (.int b) := by unfold ii at h; exact (Option.some.inj h).symm
theorem ok_eq : OpOk K (r2n (rEqP K)) (opSem .eq) := by
  intro vs ds H Q d pk h hQ
  match ds, pk, h with
  | [x, y], pk, h =>
    obtain ⟨v, u, F, G, rfl, r1, r2⟩ := pk.two
    have h : (cmpEq x y).bind ib = some d := h
    obtain ⟨b, h1, h2⟩ := bind_some h
    obtain rfl := ib_inv h2
    unfold cmpEq at h1
    split at h1
    · rename_i hm
      cases h1
      refine ⟨v, u, rfl, _, _, r1.dp, r2.dp, r1.lay, r2.lay, by rw [depth_py, depth_py]; exact hm, ?_⟩
      rw [eqv_py]
      exact fin_imm (r := True) hQ (.bl _)
    · cases h1
theorem ok_ne : OpOk K (r2n (rNeP K)) (opSem .ne) := by
  intro vs ds H Q d pk h hQ
  match ds, pk, h with
  | [x, y], pk, h =>
    obtain ⟨v, u, F, G, rfl, r1, r2⟩ := pk.two
    have h : (cmpEq x y).bind (fun b => ib (!b)) = some d := h
    obtain ⟨b, h1, h2⟩ := bind_some h
    obtain rfl := ib_inv h2
    unfold cmpEq at h1
    split at h1
    · rename_i hm
      cases h1
      refine ⟨v, u, rfl, _, _, r1.dp, r2.dp, r1.lay, r2.lay, by rw [depth_py, depth_py]; exact hm, ?_⟩
      rw [eqv_py]
      exact fin_imm (r := True) hQ (.bl _)
    · cases h1
end
end Sw
set_option maxHeartbeats 1000000
/-! Sw, part 5: more operators by values. -/
namespace Sw
open PySem PySem.Spec PyProof.Rows L2
section
variable {K : PySem.W.Frag} {H : Hp}
theorem sOf_app (a b : List Nat) : sOf a ++ sOf b = sOf (a ++ b) := by
  show Str.append (sOf a) (sOf b) = _
  simp [sOf, Str.append]
theorem chrOk_app {a b : List Nat} (h : chrOk a = true) (h' : chrOk b = true) : chrOk (a ++ b) = true := by
  unfold chrOk at *
  rw [List.all_append, h, h'] <;> rfl
theorem chrOk_sub {a b : List Nat} (h : chrOk a = true) (s : ∀ x ∈ b, x ∈ a) : chrOk b = true := by
  unfold chrOk at *
  rw [List.all_eq_true] at *
  exact fun x z => h x (s x z)
/-! ### + -/
def rAddD (K : PySem.W.Frag) : R2 := fun x y H Q => rI0 (fun i j => .int (i + j)) x y H Q ∨ (∃ i j, x = .str i ∧ y = .str j ∧ i.length + j.length ≤ sizeLine ∧ Q (.str (i ++ j)) H) ∨ rCatA K x y H Q ∨ rCat x y H Q
theorem op_addD {X : Cx} : OpR X (binaryOp .Add) (rAddD X.K) := op_add.or (op_add_str.or (op_catA.or op_cat))
theorem ok_add : OpOk K (r2n (rAddD K)) (opSem .add) := by
  intro vs ds H Q d pk h hQ
  match ds, pk, h with
  | [x, y], pk, h =>
    obtain ⟨v, u, F, G, rfl, r1, r2⟩ := pk.two
    have h : opAdd x y = some d := h
    refine ⟨v, u, rfl, ?_⟩
    unfold opAdd at h
    split at h
    · obtain rfl := ii_inv h
      obtain rfl := r1.int_of
      obtain rfl := r2.int_of
      exact .inl ⟨_, _, rfl, rfl, fin_imm (r := True) hQ (.int _)⟩
    · split at h
      · rename_i hl
        cases h
        obtain ⟨rfl, c1⟩ := r1.str_of
        obtain ⟨rfl, c2⟩ := r2.str_of
        refine .inr (.inl ⟨_, _, rfl, rfl, by rw [sOf_len, sOf_len]; exact le_line hl, ?_⟩)
        rw [sOf_app]
        exact fin_imm (r := True) hQ (.str _ (chrOk_app c1 c2))
      · cases h
    · split at h
      · rename_i hl
        cases h
        obtain ⟨a, xs, rfl, s1, q1⟩ := r1.tup_of
        obtain ⟨b, ys, rfl, s2, q2⟩ := r2.tup_of
        refine .inr (.inr (.inl ⟨a, b, xs, ys, rfl, rfl, s1, s2, by rw [q1.length, q2.length]; exact le_line hl, fun e => ?_, fun _ e => ?_, fun _ _ p hp => fin_tup hQ hp (q1.append q2)⟩))
        · subst e
          cases q1
          exact fin_imm (r := True) hQ (.tup s2 q2)
        · subst e
          cases q2
          rw [List.append_nil] at hQ
          exact fin_imm (r := True) hQ (.tup s1 q1)
      · cases h
    · split at h
      · rename_i hl
        cases h
        obtain ⟨a, xs, rfl, s1, q1, _⟩ := r1.lst_of
        obtain ⟨b, ys, rfl, s2, q2, _⟩ := r2.lst_of
        exact .inr (.inr (.inr ⟨a, b, xs, ys, rfl, rfl, s1, s2, by rw [q1.length, q2.length]; exact le_line hl, fun p hp => fin_lst hQ hp (q1.append q2)⟩))
      · cases h
    · cases h
/-! ### -, //, %, unary - -/
theorem int2_inv {f : Int → Int → Option D} {x y d : D} (h : int2 f x y = some d) : ∃ a b, x = .imm (.int a) ∧ y = .imm (.int b) ∧ f a b = some d := by
  unfold int2 at h
  split at h
  · exact ⟨_, _, rfl, rfl, h⟩
  · cases h
theorem int1_inv {f : Int → Option D} {x d : D} (h : int1 f x = some d) : ∃ a, x = .imm (.int a) ∧ f a = some d := by
  unfold int1 at h
  split at h
  · exact ⟨_, rfl, h⟩
  · cases h
/-- an op of two ints with a condition -/
theorem ok_int2 {o : Op} {f : Int → Int → Option D} {C : Int → Int → Prop} {g : Int → Int → P} {gv : Int → Int → V} (hs : ∀ x y, opSem o [x, y] = int2 f x y) (hs0 : opSem o [] = none) (hs1 : ∀ x, opSem o [x] = none) (hs3 : ∀ x y z r, opSem o (x :: y :: z :: r) = none)
    (hf : ∀ a b d, f a b = some d → C a b ∧ d = .imm (g a b)) (hg : ∀ (K : PySem.W.Frag) (H : Hp) a b, PRep K H (gv a b) (g a b)) : OpOk K (r2n (rI C gv)) (opSem o) := by
  intro vs ds H Q d pk h hQ
  match ds, pk, h with
  | [], _, h => rw [hs0] at h; cases h
  | [x], _, h => rw [hs1] at h; cases h
  | x :: y :: z :: r, _, h => rw [hs3] at h; cases h
  | [x, y], pk, h =>
    rw [hs] at h
    obtain ⟨v, u, F, G, rfl, r1, r2⟩ := pk.two
    obtain ⟨a, b, rfl, rfl, h⟩ := int2_inv h
    obtain ⟨hc, rfl⟩ := hf _ _ _ h
    obtain rfl := r1.int_of
    obtain rfl := r2.int_of
    exact ⟨_, _, rfl, _, _, rfl, rfl, hc, fin_imm (r := True) hQ (hg K H a b)⟩
theorem ok_int2' {o : Op} {f : Int → Int → Option D} {g : Int → Int → P} {gv : Int → Int → V} (hs : ∀ x y, opSem o [x, y] = int2 f x y) (hs0 : opSem o [] = none) (hs1 : ∀ x, opSem o [x] = none) (hs3 : ∀ x y z r, opSem o (x :: y :: z :: r) = none)
    (hf : ∀ a b d, f a b = some d → d = .imm (g a b)) (hg : ∀ (K : PySem.W.Frag) (H : Hp) a b, PRep K H (gv a b) (g a b)) : OpOk K (r2n (rI0 gv)) (opSem o) := by
  intro vs ds H Q d pk h hQ
  obtain ⟨x, y, e, i, j, h1, h2, _, q⟩ := ok_int2 (C := fun _ _ => True) hs hs0 hs1 hs3 (fun a b d h => ⟨trivial, hf a b d h⟩) hg vs ds H Q d pk h hQ
  exact ⟨x, y, e, i, j, h1, h2, q⟩
theorem ok_sub : OpOk K (r2n (rI0 fun i j => .int (i - j))) (opSem .sub) := ok_int2' (g := fun a b => .int (a - b)) (fun _ _ => rfl) rfl (fun _ => rfl) (fun _ _ _ _ => rfl) (fun a b d h => ii_inv h) fun _ _ _ _ => .int _
theorem ok_fdiv : OpOk K (r2n (rI CDivN fun i j => .int (i.fdiv j))) (opSem .fdiv) := ok_int2 (g := fun a b => .int (a.fdiv b)) (fun _ _ => rfl) rfl (fun _ => rfl) (fun _ _ _ _ => rfl) (fun a b d h => by
  by_cases c : b ≠ 0 ∧ b.natAbs < 1073741824
  · rw [if_pos c] at h; exact ⟨c, ii_inv h⟩
  · rw [if_neg c] at h; cases h) fun _ _ _ _ => .int _
theorem ok_mod : OpOk K (r2n (rI (fun _ j => j ≠ 0) fun i j => .int (i.fmod j))) (opSem .mod) := ok_int2 (g := fun a b => .int (a.fmod b)) (fun _ _ => rfl) rfl (fun _ => rfl) (fun _ _ _ _ => rfl) (fun a b d h => by
  by_cases c : b ≠ 0
  · rw [if_pos c] at h; exact ⟨c, ii_inv h⟩
  · rw [if_neg c] at h; cases h) fun _ _ _ _ => .int _
theorem ok_pow : OpOk K (r2n (rI CPow fun i j => .int (i ^ j.toNat))) (opSem .pow) := ok_int2 (g := fun a b => .int (a ^ b.toNat)) (fun _ _ => rfl) rfl (fun _ => rfl) (fun _ _ _ _ => rfl) (fun a b d h => by
  by_cases c : 0 ≤ b ∧ b ≤ 1000000 ∧ a.natAbs < 2 ^ 64
  · rw [if_pos c] at h; exact ⟨c, ii_inv h⟩
  · rw [if_neg c] at h; cases h) fun _ _ _ _ => .int _
theorem ok_xor : OpOk K (r2n (rI0 fun i j => .int (Builtin.bitXor i j))) (opSem .xor) := ok_int2' (g := fun i j => .int (Builtin.bitXor i j)) (fun _ _ => rfl) rfl (fun _ => rfl) (fun _ _ _ _ => rfl) (fun a b d h => ii_inv h) fun _ _ _ _ => .int _
theorem ok_isB : OpOk K (r2n rIsB) (opSem .isB) := by
  intro vs ds H Q d pk h hQ
  match ds, pk, h with
  | [x, y], pk, h =>
    obtain ⟨v, u, F, G, rfl, r1, r2⟩ := pk.two
    have h : isB2 false x y = some d := h
    unfold isB2 at h
    split at h
    · obtain rfl := r1.bl_of
      obtain rfl := r2.bl_of
      cases h
      exact ⟨_, _, rfl, _, _, rfl, rfl, fin_imm (r := True) hQ (.bl _)⟩
    · cases h
theorem ok_notB : OpOk K (r2n rNotB) (opSem .notB) := by
  intro vs ds H Q d pk h hQ
  match ds, pk, h with
  | [x, y], pk, h =>
    obtain ⟨v, u, F, G, rfl, r1, r2⟩ := pk.two
    have h : isB2 true x y = some d := h
    unfold isB2 at h
    split at h
    · obtain rfl := r1.bl_of
      obtain rfl := r2.bl_of
      cases h
      exact ⟨_, _, rfl, _, _, rfl, rfl, fin_imm (r := True) hQ (.bl _)⟩
    · cases h
theorem ok_min2 : OpOk K (r2n (rI0 fun i j => .int (if j < i then j else i))) (opSem .min2) := ok_int2' (g := fun i j => .int (if j < i then j else i)) (fun _ _ => rfl) rfl (fun _ => rfl) (fun _ _ _ _ => rfl) (fun a b d h => ii_inv h) fun _ _ _ _ => .int _
theorem ok_max2 : OpOk K (r2n (rI0 fun i j => .int (if j > i then j else i))) (opSem .max2) := ok_int2' (g := fun i j => .int (if j > i then j else i)) (fun _ _ => rfl) rfl (fun _ => rfl) (fun _ _ _ _ => rfl) (fun a b d h => ii_inv h) fun _ _ _ _ => .int _
theorem ok_int1 {o : Op} {f : Int → Option D} {g : Int → P} {gv : Int → V} (hs : ∀ x, opSem o [x] = int1 f x) (hs0 : opSem o [] = none) (hs3 : ∀ x y r, opSem o (x :: y :: r) = none)
    (hf : ∀ a d, f a = some d → d = .imm (g a)) (hg : ∀ (K : PySem.W.Frag) (H : Hp) a, PRep K H (gv a) (g a)) : OpOk K (r1n (rU gv)) (opSem o) := by
  intro vs ds H Q d pk h hQ
  match ds, pk, h with
  | [], _, h => rw [hs0] at h; cases h
  | x :: y :: r, _, h => rw [hs3] at h; cases h
  | [x], pk, h =>
    rw [hs] at h
    obtain ⟨v, F, rfl, r1⟩ := pk.one
    obtain ⟨a, rfl, h⟩ := int1_inv h
    obtain rfl := hf _ _ h
    obtain rfl := r1.int_of
    exact ⟨_, rfl, _, rfl, fin_imm (r := True) hQ (hg K H a)⟩
theorem ok_neg : OpOk K (r1n (rU fun i => .int (-i))) (opSem .neg) := ok_int1 (g := fun a => .int (-a)) (fun _ => rfl) rfl (fun _ _ _ => rfl) (fun a d h => ii_inv h) fun _ _ _ => .int _
theorem ok_abs : OpOk K (r1n (rU fun i => .int (if i < 0 then -i else i))) (opSem .abs) := ok_int1 (g := fun i => .int (if i < 0 then -i else i)) (fun _ => rfl) rfl (fun _ _ _ => rfl) (fun a d h => ii_inv h) fun _ _ _ => .int _
/-! ### * -/
def rMulS : R2 := fun x y H Q => ∃ (z : Str) (k : Int), x = .str z ∧ y = .int k ∧ -(2 ^ 62) ≤ k ∧ k < 2 ^ 62 ∧ z.length * k.toNat ≤ sizeLine ∧ Q (.str ⟨(List.replicate k.toNat z.cps.toList).flatten.toArray⟩) H
theorem foldl_cat (a : Array Nat) : ∀ (k : Nat) (acc : Array Nat), (List.replicate k a).foldl (· ++ ·) acc = acc ++ (List.replicate k a.toList).flatten.toArray
  | 0, acc => by simp
  | k + 1, acc => by
    rw [List.replicate_succ, List.foldl_cons, foldl_cat a k, List.replicate_succ, List.flatten_cons]
    apply Array.ext'
    simp
theorem op_mulS {X : Cx} : OpR X (binaryOp .Mult) rMulS := by
  intro pins s σ H x y v u Q I rx ry h
  obtain ⟨z, k, rfl, rfl, h1, h2, h3, q⟩ := h
  obtain ⟨t, rfl⟩ := rx
  obtain ⟨t', rfl⟩ := ry
  have e63 : (2 : Int) ^ 63 = 9223372036854775808 := by decide
  have e62 : (2 : Int) ^ 62 = 4611686018427387904 := by decide
  rw [e62] at h1 h2
  rw [sizeLine_is] at h3
  have hsz : z.length = z.cps.size := rfl
  have fin : ∀ k : Nat, (List.replicate k z.cps).foldl (· ++ ·) #[] = (List.replicate k z.cps.toList).flatten.toArray := fun k => by rw [foldl_cat]; simp
  refine PySem.P.mul_str (by rw [e63, decide_eq_false (by omega), decide_eq_false (by omega)] <;> rfl) (fun c1 c2 => ?_) (fun c1 c2 => ?_) ?_
  · rw [Bool.or_eq_false_iff] at c2
    obtain ⟨n, rfl⟩ := Int.eq_ofNat_of_zero_le (show 0 ≤ k by omega)
    rw [Int.toNat_natCast] at h3
    rw [e63]
    intro z2
    have hn : (0 : Int) < (n : Int) := by omega
    have h4 : ((z.length : Nat) : Int) * (n : Int) ≤ 16777216 := by
      rw [← Int.natCast_mul]
      omega
    have h5 : (9223372036854775808 - 1 : Int) / (n : Int) < (z.length : Int) := z2
    have h6 := (Int.ediv_lt_iff_lt_mul hn).mp h5
    omega
  · show decide (z.length * k.toNat > sizeLine) = false
    rw [sizeLine_is]
    exact decide_eq_false (by omega)
  · by_cases c1 : k < 1
    · rw [if_pos c1]
      have e : k.toNat = 0 := by omega
      rw [e] at q
      exact ⟨by decide, .str _, H, I.tok _, ⟨_, rfl⟩, q⟩
    · rw [if_neg c1]
      by_cases c2 : (k == 1 || z.length == 0) = true
      · rw [if_pos c2]
        refine ⟨.str z, H, I, ⟨t, rfl⟩, ?_⟩
        have e : (⟨(List.replicate k.toNat z.cps.toList).flatten.toArray⟩ : Str) = z := by
          rcases Bool.or_eq_true_iff.mp c2 with c | c
          · have e1 : k = 1 := eq_of_beq c
            subst e1
            cases z
            simp
          · have e1 : z.length = 0 := eq_of_beq c
            cases z with
            | mk cs =>
              have e2 : cs = #[] := Array.eq_empty_of_size_eq_zero e1
              subst e2
              simp
        rw [e] at q
        exact q
      · rw [if_neg c2, fin]
        refine ⟨?_, .str _, H, I.tok _, ⟨_, rfl⟩, q⟩
        show _ ≤ sizeLine
        rw [sizeLine_is]
        show (List.replicate k.toNat z.cps.toList).flatten.toArray.size ≤ _
        rw [List.size_toArray, PyProof.Rows.lm_len_rep_flat, Array.length_toList, Nat.mul_comm]
        exact h3
theorem tuple_mulS (l : Addr) (items : Array Value) (n : Nat) (dd : Option Addr) (sl : Array (Option Value)) (x : Int) (u : Tok) (c0 : (decide (x < -(2 ^ 63)) || decide (x ≥ 2 ^ 63)) = false) (c1 : (items.isEmpty || x == 1) = true) :
    Meets (Builtin.«tuple.__mul__» ⟨[.ref l, .int x u], []⟩) (fun _ R s => s.heap.get? l = some { cls := .type "tuple", dict := dd, data := .seq items n, slots := sl } ∧ R (.ok (.ret (Value.ref l))) s) :=
  .of_wp fun prog w A R s h => by
    obtain ⟨hp, g, d, tk, os⟩ := s
    obtain ⟨hl, h⟩ := h
    have f1 := AutoSeq1.idx_int
    wp_walk using AutoSeq1.wpAny_loadPart' hl
    repeat (first
      | (refine wpAny_ite_false (decide_eq_false (by rw [c0]; exact Bool.false_ne_true)) ?_; wp_walk using AutoSeq1.wpAny_loadPart' hl)
      | (refine wpAny_ite_true (decide_eq_true c1) ?_; wp_walk using AutoSeq1.wpAny_loadPart' hl))
    exact ⟨_, rfl, h⟩
theorem tuple_mulN (l : Addr) (items : Array Value) (n : Nat) (dd : Option Addr) (sl : Array (Option Value)) (x : Int) (u : Tok) (c0 : (decide (x < -(2 ^ 63)) || decide (x ≥ 2 ^ 63)) = false) (c1 : (items.isEmpty || x == 1) = false) (c2 : (decide (x ≤ 0) || items.isEmpty) = true) :
    Meets (Builtin.«tuple.__mul__» ⟨[.ref l, .int x u], []⟩) (fun _ R s => s.heap.get? l = some { cls := .type "tuple", dict := dd, data := .seq items n, slots := sl } ∧
      R (.ok (.ret (Value.ref s.heap.objs.size))) { s with heap := s.heap.push { cls := Value.type "tuple", data := Data.seq #[] }, toks := s.toks }) :=
  .of_wp fun prog w A R s h => by
    obtain ⟨hp, g, d, tk, os⟩ := s
    obtain ⟨hl, h⟩ := h
    have f1 := AutoSeq1.idx_int
    wp_walk using AutoSeq1.wpAny_loadPart' hl
    repeat (first
      | (refine wpAny_ite_false (decide_eq_false (by rw [c0]; exact Bool.false_ne_true)) ?_; wp_walk using AutoSeq1.wpAny_loadPart' hl)
      | (refine wpAny_ite_false (decide_eq_false (by rw [c1]; exact Bool.false_ne_true)) ?_; wp_walk using AutoSeq1.wpAny_loadPart' hl)
      | (refine wpAny_ite_true (decide_eq_true c2) ?_; wp_walk using AutoSeq1.wpAny_loadPart' hl))
    exact ⟨_, rfl, h⟩
/-- a tuple times an int -/
def rRepU (K : PySem.W.Frag) : R2 := fun x y H Q => ∃ l k xs, x = .ref l ∧ y = .int k ∧ SqT K H l xs ∧ -(2 ^ 62) ≤ k ∧ k < 2 ^ 62 ∧ xs.length * k.toNat ≤ sizeLine ∧ (xs = [] ∨ k = 1 → Q (.ref l) H) ∧
  (xs ≠ [] → k ≠ 1 → ∀ p, H p = none → Q (.ref p) (upd H p (.tup (List.replicate k.toNat xs).flatten)))
theorem op_repU {X : Cx} : OpR X (binaryOp .Mult) (rRepU X.K) := by
  intro pins s σ H x y v u Q I rx ry h
  obtain ⟨l, k, xs, rfl, rfl, hT, h1, h2, hz, q0, q⟩ := h
  cases rx
  obtain ⟨t, rfl⟩ := ry
  obtain ⟨its, r, ⟨⟨cls, dd, data, sl⟩, ho, hc, n, hd⟩, hs⟩ := I.tuple hT
  simp only at hc hd
  subst hc hd
  have e62 : (2 : Int) ^ 62 = 4611686018427387904 := by decide
  have e63 : (2 : Int) ^ 63 = 9223372036854775808 := by decide
  rw [e62] at h1 h2
  rw [sizeLine_is] at hz
  have hle : its.length = xs.length := r.length.symm
  have c0 : (decide (k < -(2 ^ 63)) || decide (k ≥ 2 ^ 63)) = false := by
    rw [e63, decide_eq_false (by omega), decide_eq_false (by omega)] <;> rfl
  refine wpAny_binaryOp_repeat_ref (T := "tuple") (U := "int") (by decide) ⟨_, ho, rfl⟩ (fun s' => typeIs_int s' k t) noFill_tuple_mul F.fills_int_mul F.slot_int_rmul repeat_tuple F.slot_int_index.lookup
    (call_meets F.slot_int_rmul (typeIs_int s k t) F.entry_int_rmul (F.args_int_rmul_2 _ _) (int_rmul_tuple k t l its.toArray n dd sl) ⟨ho, rfl, ⟨_, ho, rfl⟩, ?_⟩)
  have hem : its.toArray.isEmpty = true ↔ xs = [] := by
    constructor
    · intro e
      have : its = [] := by cases its with
        | nil => rfl
        | cons a b => cases e
      rw [this] at hle
      exact List.eq_nil_of_length_eq_zero hle.symm
    · intro e
      rw [e] at hle
      have : its = [] := List.eq_nil_of_length_eq_zero hle
      rw [this] <;> rfl
  by_cases c1 : (its.toArray.isEmpty || k == 1) = true
  · refine call_meets F.slot_tuple_mul ⟨_, ho, rfl⟩ F.entry_tuple_mul (F.args_tuple_mul_2 _ _) (tuple_mulS l its.toArray n dd sl k t c0 c1) ⟨ho, ?_⟩
    refine ⟨.ref l, H, I, rfl, q0 ?_⟩
    rcases Bool.or_eq_true_iff.mp c1 with c | c
    · exact .inl (hem.mp c)
    · exact .inr (eq_of_beq c)
  · have c1 : (its.toArray.isEmpty || k == 1) = false := by simpa using c1
    have c1' := c1
    rw [Bool.or_eq_false_iff] at c1'
    have hne : xs ≠ [] := fun e => by rw [hem.mpr e] at c1'; cases c1'.1
    have hk1 : k ≠ 1 := by simpa using c1'.2
    have q := q hne hk1
    by_cases c2 : k ≤ 0
    · refine call_meets F.slot_tuple_mul ⟨_, ho, rfl⟩ F.entry_tuple_mul (F.args_tuple_mul_2 _ _) (tuple_mulN l its.toArray n dd sl k t c0 c1 (by rw [decide_eq_true c2] <;> rfl)) ⟨ho, ?_⟩
      have e : k.toNat = 0 := by omega
      rw [e] at q
      exact ⟨.ref s.heap.objs.size, _, I.laid (t' := s.toks) (o := .tup []) (fun b ob q => Heap.get?_push_of_some _ q) (Nat.le_refl _) ⟨Nat.zero_le _, [], .nil, IsTup.new _ _⟩, rfl, q _ (I.hok.fresh (Nat.le_refl _))⟩
    · obtain ⟨m, rfl⟩ := Int.eq_ofNat_of_zero_le (show 0 ≤ k by omega)
      rw [Int.toNat_natCast] at hz q
      have hprod : ((its.toArray.size : Nat) : Int) * (m : Int) ≤ 16777216 := by
        rw [List.size_toArray, hle, ← Int.natCast_mul]
        omega
      have c4 : Builtin.Tuple.tupleTooMany (((its.toArray.size : Nat) : Int) * (m : Int)) = false := by
        unfold Builtin.Tuple.tupleTooMany
        rw [sizeLine_is]
        exact decide_eq_false (by omega)
      have flen : (List.replicate m its).flatten.length ≤ 16777216 := by
        rw [PyProof.Rows.lm_len_rep_flat, hle, Nat.mul_comm]
        exact hz
      refine call_meets F.slot_tuple_mul ⟨_, ho, rfl⟩ F.entry_tuple_mul (F.args_tuple_mul_2 _ _) (tuple_mulW l its.toArray n dd sl m t c0 c1 (by rw [c1'.1, Bool.or_false]; exact decide_eq_false c2) (by rw [e63]; omega) c4 (by rw [Int.toNat_natCast, size_rep, List.size_toArray, sizeLine_is]; exact flen)) ⟨ho, ?_⟩
      rw [Int.toNat_natCast, size_rep]
      refine ⟨.ref s.heap.objs.size, _, I.laid (t' := s.toks) (o := .tup (List.replicate m xs).flatten) (fun b ob q => Heap.get?_push_of_some _ q) (Nat.le_refl _) ?_, rfl, q _ (I.hok.fresh (Nat.le_refl _))⟩
      exact ⟨by rw [PyProof.Rows.lm_len_rep_flat, sizeLine_is, Nat.mul_comm]; exact hz, _, r.rep m, IsTup.new _ _⟩
def rMulD (K : PySem.W.Frag) : R2 := fun x y H Q => rI CMul (fun i j => .int (i * j)) x y H Q ∨ rMulS x y H Q ∨ rRep x y H Q ∨ rRepU K x y H Q
theorem op_mulD {X : Cx} : OpR X (binaryOp .Mult) (rMulD X.K) := op_mul.or (op_mulS.or (op_rep.or op_repU))
theorem rept_mem {α : Type} {xs : List α} {k : Int} : ∀ x ∈ rept xs k, x ∈ xs := fun x h => by
  unfold rept at h
  rw [List.mem_flatten] at h
  obtain ⟨l, h1, h2⟩ := h
  obtain ⟨_, rfl⟩ := List.mem_replicate.mp h1
  exact h2
theorem ok_mul : OpOk K (r2n (rMulD K)) (opSem .mul) := by
  intro vs ds H Q d pk h hQ
  match ds, pk, h with
  | [x, y], pk, h =>
    obtain ⟨v, u, F, G, rfl, r1, r2⟩ := pk.two
    have h : opMul x y = some d := h
    refine ⟨v, u, rfl, ?_⟩
    unfold opMul at h
    split at h
    · split at h
      · rename_i c
        obtain rfl := ii_inv h
        obtain rfl := r1.int_of
        obtain rfl := r2.int_of
        refine .inl ⟨_, _, rfl, rfl, ?_, fin_imm (r := True) hQ (.int _)⟩
        unfold mulOk at c
        rcases Bool.or_eq_true_iff.mp c with c | c
        · exact .inl (of_decide_eq_true c)
        · exact .inr (of_decide_eq_true c)
      · cases h
    · split at h
      · rename_i c
        cases h
        obtain ⟨rfl, c1⟩ := r1.str_of
        obtain rfl := r2.int_of
        refine .inr (.inl ⟨_, _, rfl, rfl, c.1, c.2.1, by rw [sOf_len]; exact le_line c.2.2, ?_⟩)
        have e : (⟨(List.replicate (Int.toNat ‹Int›) (sOf ‹List Nat›).cps.toList).flatten.toArray⟩ : Str) = sOf (rept ‹List Nat› ‹Int›) := by
          rw [sOf_cps] <;> rfl
        rw [e]
        exact fin_imm (r := True) hQ (.str _ (chrOk_sub c1 rept_mem))
      · cases h
    · split at h
      · rename_i c
        cases h
        obtain ⟨a, xs, rfl, s1, q1, _⟩ := r1.lst_of
        obtain rfl := r2.int_of
        have e62 : (2 : Int) ^ 62 = 4611686018427387904 := by decide
        have e63 : (2 : Int) ^ 63 = 9223372036854775808 := by decide
        rw [e62] at c
        refine .inr (.inr (.inl ⟨a, _, xs, rfl, rfl, s1, by rw [e63]; omega, by rw [e63]; omega, by rw [q1.length]; exact le_line c.2.2, fun p hp => fin_lst hQ hp (q1.rep _)⟩))
      · cases h
    · split at h
      · rename_i c
        cases h
        obtain ⟨a, xs, rfl, s1, q1⟩ := r1.tup_of
        obtain rfl := r2.int_of
        refine .inr (.inr (.inr ⟨a, _, xs, rfl, rfl, s1, c.1, c.2.1, by rw [q1.length]; exact le_line c.2.2, fun e => ?_, fun _ _ p hp => fin_tup hQ hp (q1.rep _)⟩))
        rcases e with e | e
        · subst e
          cases q1
          refine fin_imm (r := True) hQ ?_
          have : ∀ n : Nat, (List.replicate n ([] : List P)).flatten = [] := fun n => by induction n with
            | zero => rfl
            | succ n ih => rw [List.replicate_succ, List.flatten_cons, ih] <;> rfl
          unfold rept
          rw [this]
          exact .tup s1 .nil
        · subst e
          refine fin_imm (r := True) hQ ?_
          have : rept ‹List P› (1 : Int) = ‹List P› := by
            unfold rept
            show (List.replicate 1 _).flatten = _
            simp
          rw [this]
          exact .tup s1 q1
      · cases h
    · cases h
end
end Sw
set_option maxHeartbeats 1000000
/-! Sw, part 6: more operators by values. -/
namespace Sw
open PySem PySem.Spec PyProof.Rows L2
section
variable {K : PySem.W.Frag} {H : Hp}
/-! ### items -/
theorem atP_eq {α : Type} (xs : List α) (i : Int) : atP xs i = L2.atI xs i := rfl
theorem ixP_eq (n : Nat) (i : Int) : ixP n i = L2.ixN n i := rfl
theorem PReps.at_ {vs : List V} {ps : List P} {i : Int} {p : P} (h : PReps K H vs ps) (e : atP ps i = some p) : ∃ v, L2.atI vs i = some v ∧ PRep K H v p := by
  unfold atP at e
  obtain ⟨j, h1, h2⟩ := bind_some e
  obtain ⟨v, g1, g2⟩ := h.get h2
  refine ⟨v, ?_, g2⟩
  unfold L2.atI
  rw [h.length, ← ixP_eq, h1]
  exact g1
theorem ok_idx : OpOk K (r2n (rIx K)) (opSem .idx) := by
  intro vs ds H Q d pk h hQ
  match ds, pk, h with
  | [x, y], pk, h =>
    obtain ⟨v, u, F, G, rfl, r1, r2⟩ := pk.two
    have h : opIdx x y = some d := h
    refine ⟨v, u, rfl, ?_⟩
    unfold opIdx at h
    split at h
    · split at h
      · rename_i c
        obtain ⟨a, h1, h2⟩ := bind_some h
        cases h2
        obtain ⟨rfl, c1⟩ := r1.str_of
        obtain rfl := r2.int_of
        refine .inr (.inr ⟨_, _, a, rfl, rfl, by rw [sOf_len]; exact le_line c, by rw [sOf_cps]; exact h1, fin_imm (r := True) hQ (.str [a] ?_)⟩)
        unfold atP at h1
        obtain ⟨j, _, h3⟩ := bind_some h1
        exact chrOk_sub c1 fun x z => by rw [List.mem_singleton.mp z]; exact List.mem_of_getElem? h3
      · cases h
    · obtain ⟨a, h1, h2⟩ := bind_some h
      cases h2
      obtain ⟨b, xs, rfl, s1, q1⟩ := r1.tup_of
      obtain rfl := r2.int_of
      obtain ⟨v, g1, g2⟩ := q1.at_ h1
      exact .inr (.inl ⟨b, xs, _, v, rfl, rfl, s1, g1, fin_imm (r := True) hQ g2⟩)
    · obtain ⟨a, h1, h2⟩ := bind_some h
      cases h2
      obtain ⟨b, xs, rfl, s1, q1⟩ := r1.flst_of
      obtain rfl := r2.int_of
      obtain ⟨v, g1, g2⟩ := q1.at_ h1
      exact .inl ⟨b, xs, _, v, rfl, rfl, s1.sql, g1, fin_imm (r := True) hQ g2⟩
    · obtain ⟨a, h1, h2⟩ := bind_some h
      cases h2
      obtain ⟨b, xs, rfl, s1, q1, _⟩ := r1.lst_of
      obtain rfl := r2.int_of
      obtain ⟨v, g1, g2⟩ := q1.at_ h1
      exact .inl ⟨b, xs, _, v, rfl, rfl, SqL.of s1, g1, fin_imm (r := True) hQ g2⟩
    · cases h
/-! ### <, <=, >, >= -/
def rCmpD (f : Int → Int → Bool) (g : List Nat → List Nat → Bool) : R2 := fun x y H Q => rI0 (fun i j => .bl (f i j)) x y H Q ∨ (∃ i j, x = .str i ∧ y = .str j ∧ Q (.bl (g i.cps.toList j.cps.toList)) H)
theorem op_ltD {X : Cx} : OpR X (compareOp .Lt) (rCmpD (fun i j => decide (i < j)) fun a b => decide (a < b)) := op_lt.or op_lt_str
theorem op_leD {X : Cx} : OpR X (compareOp .LtE) (rCmpD (fun i j => decide (i ≤ j)) fun a b => !decide (b < a)) := op_le.or op_le_str
theorem op_gtD {X : Cx} : OpR X (compareOp .Gt) (rCmpD (fun i j => decide (j < i)) fun a b => decide (b < a)) := op_gt.or op_gt_str
theorem op_geD {X : Cx} : OpR X (compareOp .GtE) (rCmpD (fun i j => decide (j ≤ i)) fun a b => !decide (a < b)) := op_ge.or op_ge_str
theorem ok_cmpI {o : Op} {f : Int → Int → Bool} {g : List Nat → List Nat → Bool} (hs : ∀ x y, opSem o [x, y] = opCmpI f g x y) (hs0 : opSem o [] = none) (hs1 : ∀ x, opSem o [x] = none) (hs3 : ∀ x y z r, opSem o (x :: y :: z :: r) = none) : OpOk K (r2n (rCmpD f g)) (opSem o) := by
  intro vs ds H Q d pk h hQ
  match ds, pk, h with
  | [], _, h => rw [hs0] at h; cases h
  | [x], _, h => rw [hs1] at h; cases h
  | x :: y :: z :: r, _, h => rw [hs3] at h; cases h
  | [x, y], pk, h =>
    rw [hs] at h
    obtain ⟨v, u, F, G, rfl, r1, r2⟩ := pk.two
    refine ⟨v, u, rfl, ?_⟩
    unfold opCmpI at h
    split at h
    · obtain rfl := ib_inv h
      obtain rfl := r1.int_of
      obtain rfl := r2.int_of
      exact .inl ⟨_, _, rfl, rfl, fin_imm (r := True) hQ (.bl _)⟩
    · obtain rfl := ib_inv h
      obtain ⟨rfl, c1⟩ := r1.str_of
      obtain ⟨rfl, c2⟩ := r2.str_of
      refine .inr ⟨_, _, rfl, rfl, ?_⟩
      rw [sOf_cps, sOf_cps]
      exact fin_imm (r := True) hQ (.bl _)
    · cases h
theorem ok_lt : OpOk K (r2n (rCmpD (fun i j => decide (i < j)) fun a b => decide (a < b))) (opSem .lt) := ok_cmpI (fun _ _ => rfl) rfl (fun _ => rfl) fun _ _ _ _ => rfl
theorem ok_le : OpOk K (r2n (rCmpD (fun i j => decide (i ≤ j)) fun a b => !decide (b < a))) (opSem .le) := ok_cmpI (fun _ _ => rfl) rfl (fun _ => rfl) fun _ _ _ _ => rfl
theorem ok_gt : OpOk K (r2n (rCmpD (fun i j => decide (j < i)) fun a b => decide (b < a))) (opSem .gt) := ok_cmpI (fun _ _ => rfl) rfl (fun _ => rfl) fun _ _ _ _ => rfl
theorem ok_ge : OpOk K (r2n (rCmpD (fun i j => decide (j ≤ i)) fun a b => !decide (a < b))) (opSem .ge) := ok_cmpI (fun _ _ => rfl) rfl (fun _ => rfl) fun _ _ _ _ => rfl
/-! ### is None -/
theorem Rep.non_iff {v : V} {d : D} {F : List Addr} (h : Rep K H v d F) : decide (v = .non) = decide (d = .imm .non) := by
  cases h with
  | imm r => cases r <;> simp
  | lst e r => simp
theorem ok_isN : OpOk K (r1n fun x H Q => Q (.bl (decide (x = .non))) H) (opSem .isN) := by
  intro vs ds H Q d pk h hQ
  match ds, pk, h with
  | [x], pk, h =>
    obtain ⟨v, F, rfl, r1⟩ := pk.one
    obtain rfl := ib_inv (show ib (decide (x = .imm .non)) = some d from h)
    refine ⟨v, rfl, ?_⟩
    show Q (.bl (decide (v = .non))) H
    rw [r1.non_iff]
    exact fin_imm (r := True) hQ (.bl _)
theorem ok_notN : OpOk K (r1n fun x H Q => Q (.bl (!decide (x = .non))) H) (opSem .notN) := by
  intro vs ds H Q d pk h hQ
  match ds, pk, h with
  | [x], pk, h =>
    obtain ⟨v, F, rfl, r1⟩ := pk.one
    obtain rfl := ib_inv (show ib (!decide (x = .imm .non)) = some d from h)
    refine ⟨v, rfl, ?_⟩
    show Q (.bl (!decide (v = .non))) H
    rw [r1.non_iff]
    exact fin_imm (r := True) hQ (.bl _)
/-! ### in, not in -/
theorem subAt_iff (x y : List Nat) (i : Nat) : (i + (sOf y).length ≤ (sOf x).length ∧ Builtin.Str.subAt (sOf x) (sOf y) i = true) ↔ (y.isPrefixOf (x.drop i) = true ∧ i ≤ x.length) := by
  rw [sOf_len, sOf_len]
  have e : Builtin.Str.subAt (sOf x) (sOf y) i = ((x.drop i).take y.length == y) := by
    unfold Builtin.Str.subAt
    rw [sOf_len]
    simp [sOf, PySem.StrLaws.subAt_eq]
  rw [e, List.isPrefixOf_iff_prefix, beq_iff_eq]
  constructor
  · rintro ⟨h1, h2⟩
    refine ⟨?_, by omega⟩
    rw [← h2]
    exact List.take_prefix _ _
  · rintro ⟨h1, h2⟩
    have h3 := h1.length_le
    rw [List.length_drop] at h3
    exact ⟨by omega, (List.prefix_iff_eq_take.mp h1).symm⟩
theorem findAt_iff (y : List Nat) : ∀ (x : List Nat) (n : Nat), (findAt y x n).isSome = true ↔ ∃ i, y.isPrefixOf (x.drop i) = true ∧ i ≤ x.length
  | [], n => by
    unfold findAt
    constructor
    · intro h
      split at h
      · rename_i c
        exact ⟨0, by cases y with | nil => rfl | cons a b => simp at c, Nat.le_refl _⟩
      · cases h
    · rintro ⟨i, h1, h2⟩
      rw [List.drop_nil] at h1
      cases y with
      | nil => rfl
      | cons a b => simp at h1
  | x :: xs, n => by
    unfold findAt
    by_cases c : y.isPrefixOf (x :: xs) = true
    · rw [if_pos c]
      exact ⟨fun _ => ⟨0, c, Nat.zero_le _⟩, fun _ => rfl⟩
    · rw [if_neg c, findAt_iff y xs (n + 1)]
      constructor
      · rintro ⟨i, h1, h2⟩
        exact ⟨i + 1, h1, by simp only [List.length_cons]; omega⟩
      · rintro ⟨i, h1, h2⟩
        cases i with
        | zero => exact absurd h1 c
        | succ i => exact ⟨i, h1, by simp only [List.length_cons] at h2; omega⟩
theorem found_eq (y x : List Nat) : (!(Builtin.Str.occurrences (sOf x) (sOf y) 0 (sOf x).length 1).isEmpty) = (findAt y x 0).isSome := by
  rw [Bool.eq_iff_iff, PySem.StrLaws.found_iff, findAt_iff]
  exact exists_congr fun i => subAt_iff x y i
def rInP (K : PySem.W.Frag) (b : Bool) : R2 := fun x y H Q => (∃ i j, x = .str i ∧ y = .str j ∧ Q (.bl (xor b (!(Builtin.Str.occurrences j i 0 j.length 1).isEmpty))) H) ∨
  ∃ d ds, Dp K H x d ∧ (Dp K H y (.list ds) ∨ Dp K H y (.tuple ds)) ∧ PyData.canLayAll0 ds = true ∧ d.canLay0 = true ∧ min (PyData.depthAll ds) d.depth ≤ 50 ∧ Q (.bl (xor b (ds.any fun z => PyData.eqv z d))) H
theorem op_inP {X : Cx} (hu : X.A.units + 64 < cLine) : OpR X (compareOp .In) (rInP X.K false) := by
  intro pins s σ H x y v u Q I rx ry h
  rcases h with h | ⟨d, ds, hd, he, sd, se, hm, q⟩
  · simp only [Bool.false_xor] at h
    exact op_in_str pins s σ H x y v u Q I rx ry h
  · simp only [Bool.false_xor] at q
    obtain ⟨as, r1⟩ := Dp.reads I d x v hd rx
    rcases he with he | he
    · obtain ⟨bs, r2⟩ := Dp.reads I (.list ds) y u he ry
      exact SeqAt.in_list_reads r2 r1 sd se (by omega) ⟨.bl _, H, I, rfl, q⟩
    · obtain ⟨bs, r2⟩ := Dp.reads I (.tuple ds) y u he ry
      exact SeqAt.in_tuple_reads r2 r1 sd se (by omega) ⟨.bl _, H, I, rfl, q⟩
theorem op_notInP {X : Cx} (hu : X.A.units + 64 < cLine) : OpR X (compareOp .NotIn) (rInP X.K true) := by
  intro pins s σ H x y v u Q I rx ry h
  rcases h with h | ⟨d, ds, hd, he, sd, se, hm, q⟩
  · simp only [Bool.true_xor] at h
    exact L2.op_notIn_str pins s σ H x y v u Q I rx ry h
  · simp only [Bool.true_xor] at q
    obtain ⟨as, r1⟩ := Dp.reads I d x v hd rx
    rcases he with he | he
    · obtain ⟨bs, r2⟩ := Dp.reads I (.list ds) y u he ry
      exact SeqAt.notIn_list_reads r2 r1 sd se (by omega) ⟨.bl _, H, I, rfl, q⟩
    · obtain ⟨bs, r2⟩ := Dp.reads I (.tuple ds) y u he ry
      exact SeqAt.notIn_tuple_reads r2 r1 sd se (by omega) ⟨.bl _, H, I, rfl, q⟩
theorem any_py (p : P) : ∀ ps : List P, ((toPys ps).any fun z => PyData.eqv z (toPy p)) = ps.any fun z => peq z p
  | [] => rfl
  | q :: ps => by rw [toPys, List.any_cons, List.any_cons, any_py p ps, eqv_py]
theorem in_inv {b : Bool} {x y : D} {v u : V} {F G : List Addr} {k : Bool} {Q : VK} (r1 : Rep K H v x F) (r2 : Rep K H u y G) (h : opIn x y = some k)
    (hQ : ∀ v H' F, Same H H' → Rep K H' v (.imm (.bl (xor b k))) F → (∀ a ∈ F, H a = none) → F.Nodup → Q v H') : rInP K b v u H Q := by
  unfold opIn at h
  split at h
  · cases h
    obtain ⟨rfl, c1⟩ := r1.str_of
    obtain ⟨rfl, c2⟩ := r2.str_of
    refine .inl ⟨_, _, rfl, rfl, ?_⟩
    rw [found_eq]
    exact fin_imm (r := True) hQ (.bl _)
  · split at h
    · rename_i c
      cases h
      obtain ⟨q1, _⟩ := r1.imm_of
      obtain ⟨q2, _⟩ := r2.imm_of
      refine .inr ⟨toPy _, toPys _, q1.dp, .inr q2.dp, by have := q2.lay; simpa [toPy, PyData.canLay0] using this, q1.lay, by rw [depth_py, depths_py]; exact c, ?_⟩
      rw [any_py]
      exact fin_imm (r := True) hQ (.bl _)
    · cases h
  · split at h
    · rename_i c
      cases h
      obtain ⟨q1, _⟩ := r1.imm_of
      obtain ⟨q2, _⟩ := r2.imm_of
      refine .inr ⟨toPy _, toPys _, q1.dp, .inl q2.dp, by have := q2.lay; simpa [toPy, PyData.canLay0] using this, q1.lay, by rw [depth_py, depths_py]; exact c, ?_⟩
      rw [any_py]
      exact fin_imm (r := True) hQ (.bl _)
    · cases h
  · split at h
    · rename_i c
      cases h
      obtain ⟨q1, _⟩ := r1.imm_of
      refine .inr ⟨toPy _, toPys _, q1.dp, .inl r2.dp, by have := r2.lay; simpa [rd, toPy, PyData.canLay0] using this, q1.lay, by rw [depth_py, depths_py]; exact c, ?_⟩
      rw [any_py]
      exact fin_imm (r := True) hQ (.bl _)
    · cases h
  · cases h
theorem ok_isin : OpOk K (r2n (rInP K false)) (opSem .isin) := by
  intro vs ds H Q d pk h hQ
  match ds, pk, h with
  | [x, y], pk, h =>
    obtain ⟨v, u, F, G, rfl, r1, r2⟩ := pk.two
    obtain ⟨k, h1, h2⟩ := bind_some (show (opIn x y).bind ib = some d from h)
    obtain rfl := ib_inv h2
    exact ⟨v, u, rfl, in_inv r1 r2 h1 (by simpa using hQ)⟩
theorem ok_notin : OpOk K (r2n (rInP K true)) (opSem .notin) := by
  intro vs ds H Q d pk h hQ
  match ds, pk, h with
  | [x, y], pk, h =>
    obtain ⟨v, u, F, G, rfl, r1, r2⟩ := pk.two
    obtain ⟨k, h1, h2⟩ := bind_some (show (opIn x y).bind (fun b => ib (!b)) = some d from h)
    obtain rfl := ib_inv h2
    exact ⟨v, u, rfl, in_inv r1 r2 h1 (by simpa using hQ)⟩
end
end Sw
set_option maxHeartbeats 1000000
/-! Sw, part 7: built-ins by values. -/
namespace Sw
open PySem PySem.Spec PyProof.Rows L2
section
variable {K : PySem.W.Frag} {H : Hp}
/-! ### len -/
def rLenD (K : PySem.W.Frag) : List V → Hp → VK → Prop := fun xs H Q => ∃ x n, xs = [x] ∧ LenV K x H n ∧ Q (.int n) H
theorem ok_len : OpOk K (rLenD K) (opSem .len) := by
  intro vs ds H Q d pk h hQ
  match ds, pk, h with
  | [x], pk, h =>
    obtain ⟨v, F, rfl, r1⟩ := pk.one
    have h : opLen x = some d := h
    unfold opLen at h
    split at h
    · split at h
      · rename_i c
        obtain rfl := ii_inv h
        obtain ⟨rfl, c1⟩ := r1.str_of
        refine ⟨_, (sOf _).length, rfl, ⟨by rw [sOf_len]; exact le_line c, rfl⟩, ?_⟩
        rw [sOf_len]
        exact fin_imm (r := True) hQ (.int _)
      · cases h
    · obtain rfl := ii_inv h
      obtain ⟨a, xs, rfl, s1, q1⟩ := r1.tup_of
      refine ⟨_, xs.length, rfl, .inr ⟨xs, s1, rfl⟩, ?_⟩
      rw [q1.length]
      exact fin_imm (r := True) hQ (.int _)
    · obtain rfl := ii_inv h
      obtain ⟨a, xs, rfl, s1, q1⟩ := r1.flst_of
      refine ⟨_, xs.length, rfl, .inl ⟨xs, s1.sql, rfl⟩, ?_⟩
      rw [q1.length]
      exact fin_imm (r := True) hQ (.int _)
    · obtain rfl := ii_inv h
      obtain ⟨a, xs, rfl, s1, q1, _⟩ := r1.lst_of
      refine ⟨_, xs.length, rfl, .inl ⟨xs, SqL.of s1, rfl⟩, ?_⟩
      rw [q1.length]
      exact fin_imm (r := True) hQ (.int _)
    · cases h
/-! ### list(x), tuple(x) -/
def rListS : List V → Hp → VK → Prop := fun xs H Q => ∃ z : Str, xs = [.str z] ∧ z.length ≤ sizeLine ∧ ∀ l, H l = none → Q (.ref l) (upd H l (.lst (z.cps.toList.map fun c => .str ⟨#[c]⟩)))
theorem vals_of_items : ∀ {xs : List V} {its : List Value}, xs.length = its.length → (∀ (i : Nat) (v : Value), its[i]? = some v → ∃ x, xs[i]? = some x ∧ RelV x v) → Vals xs its
  | [], [], _, _ => .nil
  | [], _ :: _, h, _ => by simp at h
  | _ :: _, [], h, _ => by simp at h
  | x :: xs, v :: its, h, f => by
    obtain ⟨y, h1, h2⟩ := f 0 v rfl
    simp at h1
    subst h1
    exact .cons h2 (vals_of_items (by simpa using h) fun i u e => by simpa using f (i + 1) u (by simpa using e))
theorem vals_signs {x : Str} {acc : Array Value} (h : ItemsOf (SignAt x) acc x.cps.size) : Vals (x.cps.toList.map fun c => .str ⟨#[c]⟩) acc.toList := by
  refine vals_of_items (by simp [h.1]) fun i v e => ?_
  obtain ⟨c, u, h1, rfl⟩ := h.2 i v (by simpa using e)
  refine ⟨.str ⟨#[c]⟩, ?_, u, rfl⟩
  rw [List.getElem?_map]
  have : x.cps.toList[i]? = some c := by simpa using h1
  rw [this]
  rfl
theorem call_listS {X : Cx} (hc : X.calm = true) : CallR X (.type "list") rListS := by
  intro pins s σ H xs us Q I r h
  obtain ⟨z, rfl, hz, q⟩ := h
  obtain ⟨u, rfl, t, rfl⟩ := vals1 r
  refine call_list_str (I.ok.hd hc) z t (fun h' tk acc' c' hk hS hacc => ?_) hz
  refine ⟨.ref _, _, I.laid (t' := tk) (o := .lst (z.cps.toList.map fun c => .str ⟨#[c]⟩)) hk (Nat.le_refl _) ?_, rfl, q _ (I.hok.fresh (Nat.le_refl _))⟩
  refine ⟨by simpa [Str.length] using hz, acc'.toList, c', vals_signs hacc, ?_⟩
  rw [hS]
def rTupS : List V → Hp → VK → Prop := fun xs H Q => ∃ z : Str, xs = [.str z] ∧ z.length ≤ sizeLine ∧ ∀ l, H l = none → Q (.ref l) (upd H l (.tup (z.cps.toList.map fun c => .str ⟨#[c]⟩)))
theorem call_tupS {X : Cx} (hc : X.calm = true) : CallR X (.type "tuple") rTupS := by
  intro pins s σ H xs us Q I r h
  obtain ⟨z, rfl, hz, q⟩ := h
  obtain ⟨u, rfl, t, rfl⟩ := vals1 r
  refine call_tuple_str (I.ok.hd hc) z t (fun h' tk acc' hk hacc => ?_) hz
  have I1 : Inv X pins σ H { s with heap := h', toks := tk } := I.kept hk
  refine ⟨.ref _, _, I1.laid (t' := tk) (o := .tup (z.cps.toList.map fun c => .str ⟨#[c]⟩)) (fun b u e => Heap.get?_push_of_some _ e) (Nat.le_refl _) ?_, rfl, q _ (I1.hok.fresh (Nat.le_refl _))⟩
  exact ⟨by simpa [Str.length] using hz, acc'.toList, vals_signs hacc, _, Heap.get?_push_size _ rfl, rfl, 0, by simp⟩
def rListD (K : PySem.W.Frag) : List V → Hp → VK → Prop := fun xs H Q => (∃ p ys, xs = [.ref p] ∧ (SqL K H p ys ∨ SqT K H p ys) ∧ ∀ l, H l = none → Q (.ref l) (upd H l (.lst ys))) ∨ rListS xs H Q
theorem call_listD {X : Cx} (hc : X.calm = true) : CallR X (.type "list") (rListD X.K) := call_list_of.or (call_listS hc)
def rTupD (K : PySem.W.Frag) : List V → Hp → VK → Prop := fun xs H Q => (∃ p ys, xs = [.ref p] ∧ ((SqL K H p ys ∧ ∀ l, H l = none → Q (.ref l) (upd H l (.tup ys))) ∨ (SqT K H p ys ∧ Q (.ref p) H))) ∨ rTupS xs H Q
theorem call_tupD {X : Cx} (hc : X.calm = true) : CallR X (.type "tuple") (rTupD X.K) := call_tuple_of.or (call_tupS hc)
theorem signs_rep {s : List Nat} (h : chrOk s = true) : PReps K H ((sOf s).cps.toList.map fun c => V.str ⟨#[c]⟩) (s.map fun c => P.str [c]) := by
  rw [sOf_cps]
  induction s with
  | nil => exact .nil
  | cons c s ih =>
    exact .cons (.str [c] (chrOk_sub h fun x z => by rw [List.mem_singleton.mp z]; exact List.mem_cons_self)) (ih (chrOk_sub h fun x z => List.mem_cons_of_mem _ z))
theorem ok_list : OpOk K (rListD K) (opSem .list) := by
  intro vs ds H Q d pk h hQ
  match ds, pk, h with
  | [x], pk, h =>
    obtain ⟨v, F, rfl, r1⟩ := pk.one
    have h : opList x = some d := h
    unfold opList at h
    obtain ⟨ps, h1, h2⟩ := bind_some h
    split at h2
    · rename_i hl
      cases h2
      by_cases hs : ∃ s, x = .imm (.str s)
      · obtain ⟨s, rfl⟩ := hs
        obtain ⟨rfl, c1⟩ := r1.str_of
        cases h1
        rw [List.length_map] at hl
        exact .inr ⟨_, rfl, by rw [sOf_len]; exact le_line hl, fun p hp => fin_lst hQ hp (signs_rep c1)⟩
      · obtain ⟨a, xs, rfl, s1, q1⟩ := r1.seq_of h1 fun s e => hs ⟨s, e⟩
        exact .inl ⟨a, xs, rfl, s1, fun p hp => fin_lst hQ hp q1⟩
    · cases h2
theorem ok_tuple : OpOk K (rTupD K) (opSem .tuple) := by
  intro vs ds H Q d pk h hQ
  match ds, pk, h with
  | [x], pk, h =>
    obtain ⟨v, F, rfl, r1⟩ := pk.one
    have h : opTuple x = some d := h
    unfold opTuple at h
    obtain ⟨ps, h1, h2⟩ := bind_some h
    split at h2
    · rename_i hl
      cases h2
      by_cases hs : ∃ s, x = .imm (.str s)
      · obtain ⟨s, rfl⟩ := hs
        obtain ⟨rfl, c1⟩ := r1.str_of
        cases h1
        rw [List.length_map] at hl
        exact .inr ⟨_, rfl, by rw [sOf_len]; exact le_line hl, fun p hp => fin_tup hQ hp (signs_rep c1)⟩
      · obtain ⟨a, xs, rfl, s1, q1⟩ := r1.seq_of h1 fun s e => hs ⟨s, e⟩
        rcases s1 with s1 | s1
        · exact .inl ⟨a, xs, rfl, .inl ⟨s1, fun p hp => fin_tup hQ hp q1⟩⟩
        · exact .inl ⟨a, xs, rfl, .inr ⟨s1, fin_imm (r := True) hQ (.tup s1 q1)⟩⟩
    · cases h2
/-! ### int, sum, all, any, join, index -/
def rIntD : List V → Hp → VK → Prop := fun xs H Q => (∃ i, xs = [.int i] ∧ Q (.int i) H) ∨ ∃ k, xs = [.bl k] ∧ Q (.int (if k then 1 else 0)) H
theorem ok_int : OpOk K rIntD (opSem .int) := by
  intro vs ds H Q d pk h hQ
  match ds, pk, h with
  | [x], pk, h =>
    obtain ⟨v, F, rfl, r1⟩ := pk.one
    have h : opInt x = some d := h
    unfold opInt at h
    split at h
    · obtain rfl := ii_inv h
      obtain rfl := r1.int_of
      exact .inl ⟨_, rfl, fin_imm (r := True) hQ (.int _)⟩
    · obtain rfl := ii_inv h
      obtain rfl := r1.bl_of
      exact .inr ⟨_, rfl, fin_imm (r := True) hQ (.int _)⟩
    · cases h
theorem allInts_eq : ∀ {ps : List P} {ns : List Int}, allInts ps = some ns → ps = ns.map P.int
  | [], ns, h => by cases h; rfl
  | .int i :: ps, ns, h => by
    unfold allInts at h
    cases q : allInts ps with
    | none => rw [q] at h; cases h
    | some ms => rw [q] at h; cases h; rw [allInts_eq q] <;> rfl
  | .non :: _, _, h => by cases h
  | .bl _ :: _, _, h => by cases h
  | .str _ :: _, _, h => by cases h
  | .tup _ :: _, _, h => by cases h
  | .lst _ :: _, _, h => by cases h
theorem allBls_eq : ∀ {ps : List P} {ns : List Bool}, allBls ps = some ns → ps = ns.map P.bl
  | [], ns, h => by cases h; rfl
  | .bl i :: ps, ns, h => by
    unfold allBls at h
    cases q : allBls ps with
    | none => rw [q] at h; cases h
    | some ms => rw [q] at h; cases h; rw [allBls_eq q] <;> rfl
  | .non :: _, _, h => by cases h
  | .int _ :: _, _, h => by cases h
  | .str _ :: _, _, h => by cases h
  | .tup _ :: _, _, h => by cases h
  | .lst _ :: _, _, h => by cases h
theorem allStrs_eq : ∀ {ps : List P} {ns : List (List Nat)}, allStrs ps = some ns → ps = ns.map P.str
  | [], ns, h => by cases h; rfl
  | .str i :: ps, ns, h => by
    unfold allStrs at h
    cases q : allStrs ps with
    | none => rw [q] at h; cases h
    | some ms => rw [q] at h; cases h; rw [allStrs_eq q] <;> rfl
  | .non :: _, _, h => by cases h
  | .int _ :: _, _, h => by cases h
  | .bl _ :: _, _, h => by cases h
  | .tup _ :: _, _, h => by cases h
  | .lst _ :: _, _, h => by cases h
/-- lists alone -/
theorem Rep.list_of {v : V} {d : D} {F : List Addr} {ps : List P} (h : Rep K H v d F) (e : listOf d = some ps) : ∃ a xs, v = .ref a ∧ SqL K H a xs ∧ PReps K H xs ps := by
  cases d with
  | lst qs =>
    obtain ⟨a, xs, h1, h2, h3, _⟩ := h.lst_of
    cases e
    exact ⟨a, xs, h1, SqL.of h2, h3⟩
  | imm p =>
    cases p with
    | lst qs =>
      obtain ⟨a, xs, h1, h2, h3⟩ := h.flst_of
      cases e
      exact ⟨a, xs, h1, h2.sql, h3⟩
    | _ => cases e
theorem ok_sum : OpOk K (rSum K) (opSem .sum) := by
  intro vs ds H Q d pk h hQ
  match ds, pk, h with
  | [x], pk, h =>
    obtain ⟨v, F, rfl, r1⟩ := pk.one
    obtain ⟨ps, h1, h2⟩ := bind_some (show opSum x = some d from h)
    obtain ⟨ns, h3, h4⟩ := bind_some h2
    obtain rfl := ii_inv h4
    obtain rfl := allInts_eq h3
    obtain ⟨a, xs, rfl, s1, q1⟩ := r1.list_of h1
    obtain rfl := q1.of_ints
    exact ⟨a, ns, rfl, s1, fin_imm (r := True) hQ (.int _)⟩
/-! any, all, of lists and tuples -/
mutual
theorem plain_py : ∀ p : P, (toPy p).plain = true
  | .non => by simp [toPy, PyData.plain]
  | .bl b => by simp [toPy, PyData.plain]
  | .int i => by simp [toPy, PyData.plain]
  | .str s => by simp [toPy, PyData.plain]
  | .tup ps => by simp [toPy, PyData.plain, plains_py ps]
  | .lst ps => by simp [toPy, PyData.plain, plains_py ps]
theorem plains_py : ∀ ps : List P, PyData.plainAll (toPys ps) = true
  | [] => by simp [toPys, PyData.plainAll]
  | p :: ps => by simp [toPys, PyData.plainAll, plain_py p, plains_py ps]
end
theorem toPys_len (ps : List P) : (toPys ps).length = ps.length := by rw [toPys_map, List.length_map]
theorem toPys_emp (ps : List P) : (toPys ps).isEmpty = ps.isEmpty := by cases ps <;> simp [toPys]
theorem truthy_py (p : P) : (toPy p).truthy = truthP p := by
  cases p with
  | str s => cases s <;> simp [toPy, PyData.truthy, truthP, sOf_len] <;> omega
  | tup ps => simp [toPy, PyData.truthy, truthP, toPys_emp]
  | lst ps => simp [toPy, PyData.truthy, truthP, toPys_emp]
  | _ => simp [toPy, PyData.truthy, truthP]
theorem fits_py {p : P} (h : fitP p = true) : (toPy p).fits63 := by
  have e63 : (2 : Int) ^ 63 = 9223372036854775808 := by decide
  have hl : (line : Nat) = 16777216 := rfl
  cases p with
  | str s => have := of_decide_eq_true h; simp only [toPy, PyData.fits63, sOf_len]; rw [e63]; omega
  | tup ps => have := of_decide_eq_true h; simp only [toPy, PyData.fits63, toPys_len]; rw [e63]; omega
  | lst ps => have := of_decide_eq_true h; simp only [toPy, PyData.fits63, toPys_len]; rw [e63]; omega
  | _ => simp only [toPy, PyData.fits63]
theorem any_truthy (ps : List P) : (toPys ps).any PyData.truthy = ps.any truthP := by
  rw [toPys_map, List.any_map]
  congr 1
  funext p
  exact truthy_py p
theorem all_truthy (ps : List P) : (toPys ps).all PyData.truthy = ps.all truthP := by
  rw [toPys_map, List.all_map]
  congr 1
  funext p
  exact truthy_py p
def rAnyD (K : PySem.W.Frag) : List V → Hp → VK → Prop := fun vs H Q => ∃ x ds, vs = [x] ∧ (Dp K H x (.list ds) ∨ Dp K H x (.tuple ds)) ∧ PyData.plainAll ds = true ∧ (∀ d ∈ ds, d.fits63) ∧ Q (.bl (ds.any PyData.truthy)) H
def rAllD (K : PySem.W.Frag) : List V → Hp → VK → Prop := fun vs H Q => ∃ x ds, vs = [x] ∧ (Dp K H x (.list ds) ∨ Dp K H x (.tuple ds)) ∧ PyData.plainAll ds = true ∧ (∀ d ∈ ds, d.fits63) ∧ Q (.bl (ds.all PyData.truthy)) H
theorem cr_anyD {X : Cx} (hc : X.calm = true) : CallR X (.builtin "any") (rAnyD X.K) := by
  intro pins s σ H vs us Q I r h
  obtain ⟨x, ds, rfl, hd, hp, hf, q⟩ := h
  obtain ⟨u, rfl, ru⟩ := Vals.one r
  rcases hd with hd | hd
  · cases hd with
    | lst hs ha =>
      obtain ⟨its, rv, hl, hz⟩ := I.list hs
      cases ru
      obtain ⟨as, hr⟩ := Dp.readsAll I ds _ its ha rv
      exact PySem.W.any_list_data (I.ok.hd hc) hl.isList hr hp hf fun h' tk hk => ⟨.bl _, H, I.kept hk, rfl, q⟩
  · cases hd with
    | tup hs ha =>
      obtain ⟨its, rv, hl, hz⟩ := I.tuple hs
      cases ru
      obtain ⟨as, hr⟩ := Dp.readsAll I ds _ its ha rv
      exact PySem.W.any_tuple_data (I.ok.hd hc) hl hr hp hf fun h' tk hk => ⟨.bl _, H, I.kept hk, rfl, q⟩
theorem cr_allD {X : Cx} (hc : X.calm = true) : CallR X (.builtin "all") (rAllD X.K) := by
  intro pins s σ H vs us Q I r h
  obtain ⟨x, ds, rfl, hd, hp, hf, q⟩ := h
  obtain ⟨u, rfl, ru⟩ := Vals.one r
  rcases hd with hd | hd
  · cases hd with
    | lst hs ha =>
      obtain ⟨its, rv, hl, hz⟩ := I.list hs
      cases ru
      obtain ⟨as, hr⟩ := Dp.readsAll I ds _ its ha rv
      exact PySem.W.all_list_data (I.ok.hd hc) hl.isList hr hp hf fun h' tk hk => ⟨.bl _, H, I.kept hk, rfl, q⟩
  · cases hd with
    | tup hs ha =>
      obtain ⟨its, rv, hl, hz⟩ := I.tuple hs
      cases ru
      obtain ⟨as, hr⟩ := Dp.readsAll I ds _ its ha rv
      exact PySem.W.all_tuple_data (I.ok.hd hc) hl hr hp hf fun h' tk hk => ⟨.bl _, H, I.kept hk, rfl, q⟩
theorem Rep.sq_dp {v : V} {d : D} {F : List Addr} {ps : List P} (h : Rep K H v d F) (e : seqOf d = some ps) : Dp K H v (.list (toPys ps)) ∨ Dp K H v (.tuple (toPys ps)) := by
  have hd := h.dp
  cases d with
  | lst qs => cases e; exact .inl (by simpa [rd, toPy] using hd)
  | imm p =>
    cases p with
    | tup qs => cases e; exact .inr (by simpa [rd, toPy] using hd)
    | lst qs => cases e; exact .inl (by simpa [rd, toPy] using hd)
    | _ => cases e
theorem fits_all {ps : List P} (h : ps.all fitP = true) : ∀ d ∈ toPys ps, d.fits63 := fun d hd => by
  rw [toPys_map] at hd
  obtain ⟨p, hp, rfl⟩ := List.mem_map.mp hd
  exact fits_py (List.all_eq_true.mp h p hp)
theorem ok_all : OpOk K (rAllD K) (opSem .all) := by
  intro vs ds H Q d pk h hQ
  match ds, pk, h with
  | [x], pk, h =>
    obtain ⟨v, F, rfl, r1⟩ := pk.one
    obtain ⟨ps, h1, h2⟩ := bind_some (show opAll x = some d from h)
    split at h2
    · rename_i hf
      obtain rfl := ib_inv h2
      refine ⟨v, toPys ps, rfl, r1.sq_dp h1, plains_py ps, fits_all hf, ?_⟩
      rw [all_truthy]
      exact fin_imm (r := True) hQ (.bl _)
    · cases h2
theorem ok_any : OpOk K (rAnyD K) (opSem .any) := by
  intro vs ds H Q d pk h hQ
  match ds, pk, h with
  | [x], pk, h =>
    obtain ⟨v, F, rfl, r1⟩ := pk.one
    obtain ⟨ps, h1, h2⟩ := bind_some (show opAny x = some d from h)
    split at h2
    · rename_i hf
      obtain rfl := ib_inv h2
      refine ⟨v, toPys ps, rfl, r1.sq_dp h1, plains_py ps, fits_all hf, ?_⟩
      rw [any_truthy]
      exact fin_imm (r := True) hQ (.bl _)
    · cases h2
theorem join_sOf (s : List Nat) : ∀ ns : List (List Nat), Str.join (sOf s) (ns.map sOf) = sOf (joinL s ns)
  | [] => rfl
  | [x] => rfl
  | x :: y :: r => by
    show sOf x ++ sOf s ++ Str.join (sOf s) ((y :: r).map sOf) = sOf (x ++ s ++ joinL s (y :: r))
    rw [join_sOf s (y :: r), sOf_app, sOf_app]
theorem chrOk_join {s : List Nat} (hs : chrOk s = true) : ∀ {ns : List (List Nat)}, (∀ n ∈ ns, chrOk n = true) → chrOk (joinL s ns) = true
  | [], _ => rfl
  | [x], h => h x List.mem_cons_self
  | x :: y :: r, h => chrOk_app (chrOk_app (h x List.mem_cons_self) hs) (chrOk_join hs fun n z => h n (List.mem_cons_of_mem _ z))
theorem PReps.strs_ok : ∀ {ns : List (List Nat)} {vs : List V}, PReps K H vs (ns.map P.str) → ∀ n ∈ ns, chrOk n = true
  | [], _, _, n, z => nomatch z
  | m :: ns, _, h, n, z => by
    cases h with
    | cons a b =>
      cases a with
      | str _ c =>
        rcases List.mem_cons.mp z with rfl | z
        · exact c
        · exact PReps.strs_ok b n z
def rJoinD (K : PySem.W.Frag) : V → List V → Hp → VK → Prop := fun x xs H Q => ∃ a p, ∃ ys : List Str, x = .str a ∧ xs = [.ref p] ∧ (SqL K H p (ys.map V.str) ∨ SqT K H p (ys.map V.str)) ∧
    (ys.map (·.length)).sum + ys.length * a.length ≤ 16777216 ∧ Q (.str (Txt.join a ys)) H
def m2n (r : V → List V → Hp → VK → Prop) : List V → Hp → VK → Prop := fun vs H Q => ∃ x xs, vs = x :: xs ∧ r x xs H Q
theorem ok_join : OpOk K (m2n (rJoinD K)) (opSem .join) := by
  intro vs ds H Q d pk h hQ
  match ds, pk, h with
  | [x, y], pk, h =>
    obtain ⟨v, u, F, G, rfl, r1, r2⟩ := pk.two
    have h : opJoin x y = some d := h
    unfold opJoin at h
    split at h
    · split at h
      · cases h
      · rename_i hns
        obtain ⟨ps, h1, h2⟩ := bind_some h
        obtain ⟨ns, h3, h4⟩ := bind_some h2
        split at h4
        · rename_i hl
          cases h4
          obtain rfl := allStrs_eq h3
          obtain ⟨rfl, c1⟩ := r1.str_of
          obtain ⟨a, xs, rfl, s1, q1⟩ := r2.seq_of h1 fun s e => hns s e
          have ok := q1.strs_ok
          obtain rfl := q1.of_strs
          refine ⟨_, _, rfl, _, a, ns.map sOf, rfl, rfl, s1, ?_, ?_⟩
          · rw [List.map_map, List.length_map, sOf_len]
            have e : (List.map ((fun x => x.length) ∘ sOf) ns) = ns.map List.length := List.map_congr_left fun n _ => sOf_len n
            rw [e]
            exact hl
          · rw [show Txt.join (sOf _) (List.map sOf _) = Str.join (sOf _) (List.map sOf _) from PySem.StrLaws.glued_eq_join _ _, join_sOf]
            exact fin_imm (r := True) hQ (.str _ (chrOk_join c1 ok))
        · cases h4
    · cases h
theorem idxOf_spec (p : P) : ∀ {ps : List P} {j : Nat}, idxOf p ps = some j → (∃ z, (toPys ps)[j]? = some z ∧ PyData.eqv z (toPy p) = true) ∧ ∀ (m : Nat) (z' : PyData), m < j → (toPys ps)[m]? = some z' → PyData.eqv z' (toPy p) = false
  | [], _, h => by cases h
  | q :: ps, j, h => by
    unfold idxOf at h
    by_cases c : peq q p = true
    · rw [if_pos c] at h
      cases h
      exact ⟨⟨toPy q, rfl, by rw [eqv_py]; exact c⟩, fun m z' hm => absurd hm (Nat.not_lt_zero m)⟩
    · rw [if_neg c] at h
      cases e : idxOf p ps with
      | none => rw [e] at h; cases h
      | some i =>
        rw [e] at h
        cases h
        obtain ⟨⟨z, h1, h2⟩, h3⟩ := idxOf_spec p e
        refine ⟨⟨z, h1, h2⟩, fun m z' hm hz => ?_⟩
        cases m with
        | zero =>
          have e1 : toPy q = z' := Option.some.inj hz
          rw [← e1, eqv_py]
          exact Bool.eq_false_iff.mpr c
        | succ m => exact h3 m z' (Nat.lt_of_succ_lt_succ hm) hz
def rIndexP (K : PySem.W.Frag) : V → List V → Hp → VK → Prop := fun x xs H Q => ∃ (a : Addr) (y : V) (d : PyData) (ds : List PyData) (j : Nat) (z : PyData), x = V.ref a ∧ xs = [y] ∧ Dp K H (V.ref a) (.list ds) ∧ Dp K H y d ∧
  PyData.canLayAll0 ds = true ∧ d.canLay0 = true ∧ min (PyData.depthAll ds) d.depth ≤ 50 ∧ ds[j]? = some z ∧ PyData.eqv z d = true ∧ (∀ (m : Nat) (z' : PyData), m < j → ds[m]? = some z' → PyData.eqv z' d = false) ∧ Q (.int (j : Nat)) H
end
end Sw
set_option maxHeartbeats 1000000
/-! Sw, part 7b: sorted, min, max of data; letters. -/
namespace Sw
open PySem PySem.Spec PyProof.Rows L2
section
variable {K : PySem.W.Frag} {H : Hp}
/-! ### min, max -/
theorem vals_at {xs : List V} {us : List Value} (r : Vals xs us) {j : Nat} {v : Value} (h : us[j]? = some v) : ∃ x, xs[j]? = some x ∧ RelV x v := by
  have hl := r.length
  have hj := (List.getElem?_eq_some_iff.mp h).1
  have hx : xs[j]? = some (xs[j]'(by omega)) := List.getElem?_eq_getElem (by omega)
  obtain ⟨u, hu, ru⟩ := r.get hx
  rw [h] at hu
  cases hu
  exact ⟨_, hx, ru⟩
theorem ltD_argBest (f : P → P → Bool) (g : PyData → PyData → Bool) (hfg : ∀ a b, g (toPy a) (toPy b) = f a b) (p : P) (ps : List P) :
    (p :: ps)[argBest (fun i j => g ((toPys (p :: ps)).getD i .none) ((toPys (p :: ps)).getD j .none)) ps.length]? = some (ps.foldl (fun a y => if f y a then y else a) p) := by
  have e : (fun i j => g ((toPys (p :: ps)).getD i .none) ((toPys (p :: ps)).getD j .none)) = fun i j => f ((p :: ps).getD i .non) ((p :: ps).getD j .non) := by
    funext i j
    have hg : ∀ k, (toPys (p :: ps)).getD k .none = toPy ((p :: ps).getD k .non) := fun k => by
      rw [toPys_map, List.getD_eq_getElem?_getD, List.getD_eq_getElem?_getD, List.getElem?_map]
      cases (p :: ps)[k]? <;> rfl
    rw [hg, hg, hfg]
  rw [e]
  obtain ⟨h1, h2⟩ := PySem.W.argBest_fold f P.non p ps ps.length (Nat.le_refl _)
  rw [List.take_length] at h2
  have hlt : argBest (fun i j => f ((p :: ps).getD i .non) ((p :: ps).getD j .non)) ps.length < (p :: ps).length := by rw [List.length_cons]; omega
  rw [List.getElem?_eq_getElem hlt, ← h2, List.getD_eq_getElem?_getD, List.getElem?_eq_getElem hlt] <;> rfl
theorem alikes_of {ps : List P} (h : alikes ps = true) : ∀ x ∈ toPys ps, ∀ y ∈ toPys ps, PySem.W.alike x y = true := fun x hx y hy => by
  rw [toPys_map] at hx hy
  obtain ⟨p, hp, rfl⟩ := List.mem_map.mp hx
  obtain ⟨q, hq, rfl⟩ := List.mem_map.mp hy
  exact List.all_eq_true.mp (List.all_eq_true.mp h p hp) q hq
theorem minOk_of {ps : List P} (h : minOk ps = true) : PySem.W.AlikeAll (toPys ps) ∧ PyData.depthAll (toPys ps) ≤ 50 := by
  unfold minOk at h
  simp only [Bool.and_eq_true, decide_eq_true_eq] at h
  obtain ⟨⟨h1, h2⟩, h3⟩ := h
  refine ⟨⟨alikes_of h1, fun x hx e => ?_⟩, by rw [depths_py]; exact h3⟩
  rw [toPys_map] at hx
  obtain ⟨p, hp, rfl⟩ := List.mem_map.mp hx
  have := List.all_eq_true.mp h2 p hp
  cases p <;> first | (simp [isNonP] at this; done) | (simp [toPy] at e; done)
/-- the item that a look over all finds -/
def rBest (K : PySem.W.Frag) (g : PyData → PyData → Bool) : List V → Hp → VK → Prop := fun vs H Q => ∃ v ds xs, vs = [v] ∧ ((∃ a, v = .ref a ∧ SqL K H a xs) ∨ (∃ a, v = .ref a ∧ SqT K H a xs)) ∧ DpAll K H xs ds ∧ PySem.W.AlikeAll ds ∧ ds ≠ [] ∧ PyData.depthAll ds ≤ 50 ∧
  ∀ x, xs[argBest (fun i j => g (ds.getD i .none) (ds.getD j .none)) (ds.length - 1)]? = some x → Q x H
theorem cr_minD {X : Cx} (hc : X.calm = true) (hu : X.A.units + 64 < cLine) : CallR X (.builtin "min") (rBest X.K PySem.W.dataLt) := by
  intro pins s σ H vs us Q I r h
  obtain ⟨v, ds, xs, rfl, hs, ha, hal, hne, hd, q⟩ := h
  obtain ⟨u, rfl, ru⟩ := Vals.one r
  have hn0 : 0 < ds.length := List.length_pos_iff.mpr hne
  rcases hs with ⟨a, rfl, hs⟩ | ⟨a, rfl, hs⟩
  · obtain ⟨its, rv, hl, hz⟩ := I.list hs
    cases ru
    obtain ⟨as, hr⟩ := Dp.readsAll I ds _ its ha rv
    have hr : ReadsAll s.heap its.toArray.toList ds as := hr
    have hn : its.toArray.size = ds.length := PySem.W.readsAll_len hr
    refine call_min_walkH (PySem.W.iter_listW (A := X.A.in1) (I.ok.hd hc) hl.isList fun s₂ e W st hfp hw hk => ?_)
    refine ⟨_, _, _, _, _, _, _, s.heap, _, rfl, W, st, hfp, by omega, hw, hk, PySem.W.cmpIn_lt (A := X.A.in1) hr hal (by show X.A.units + 1 + _ < _; omega), fun v s' hP m => ?_⟩
    obtain ⟨h', tk, rfl, hk'⟩ := PySem.W.moved_old e rfl m
    rw [hn] at hP
    obtain ⟨x, hx, rx⟩ := vals_at rv (by simpa using hP)
    exact ⟨x, H, I.kept hk', rx, q x hx⟩
  · obtain ⟨its, rv, hl, hz⟩ := I.tuple hs
    cases ru
    obtain ⟨as, hr⟩ := Dp.readsAll I ds _ its ha rv
    have hr : ReadsAll s.heap its.toArray.toList ds as := hr
    have hn : its.toArray.size = ds.length := PySem.W.readsAll_len hr
    refine call_min_walkH (PySem.W.iter_tupleW (A := X.A.in1) (I.ok.hd hc) hl fun s₂ e W st hfp hw hk => ?_)
    refine ⟨_, _, _, _, _, _, _, s.heap, _, rfl, W, st, hfp, by omega, hw, hk, PySem.W.cmpIn_lt (A := X.A.in1) hr hal (by show X.A.units + 1 + _ < _; omega), fun v s' hP m => ?_⟩
    obtain ⟨h', tk, rfl, hk'⟩ := PySem.W.moved_old e rfl m
    rw [hn] at hP
    obtain ⟨x, hx, rx⟩ := vals_at rv (by simpa using hP)
    exact ⟨x, H, I.kept hk', rx, q x hx⟩
theorem cr_maxD {X : Cx} (hc : X.calm = true) (hu : X.A.units + 64 < cLine) : CallR X (.builtin "max") (rBest X.K fun a b => PySem.W.dataLt b a) := by
  intro pins s σ H vs us Q I r h
  obtain ⟨v, ds, xs, rfl, hs, ha, hal, hne, hd, q⟩ := h
  obtain ⟨u, rfl, ru⟩ := Vals.one r
  have hn0 : 0 < ds.length := List.length_pos_iff.mpr hne
  rcases hs with ⟨a, rfl, hs⟩ | ⟨a, rfl, hs⟩
  · obtain ⟨its, rv, hl, hz⟩ := I.list hs
    cases ru
    obtain ⟨as, hr⟩ := Dp.readsAll I ds _ its ha rv
    have hr : ReadsAll s.heap its.toArray.toList ds as := hr
    have hn : its.toArray.size = ds.length := PySem.W.readsAll_len hr
    refine call_max_walkH (PySem.W.iter_listW (A := X.A.in1) (I.ok.hd hc) hl.isList fun s₂ e W st hfp hw hk => ?_)
    refine ⟨_, _, _, _, _, _, _, s.heap, _, rfl, W, st, hfp, by omega, hw, hk, PySem.W.cmpIn_gt (A := X.A.in1) hr hal (by show X.A.units + 1 + _ < _; omega), fun v s' hP m => ?_⟩
    obtain ⟨h', tk, rfl, hk'⟩ := PySem.W.moved_old e rfl m
    rw [hn] at hP
    obtain ⟨x, hx, rx⟩ := vals_at rv (by simpa using hP)
    exact ⟨x, H, I.kept hk', rx, q x hx⟩
  · obtain ⟨its, rv, hl, hz⟩ := I.tuple hs
    cases ru
    obtain ⟨as, hr⟩ := Dp.readsAll I ds _ its ha rv
    have hr : ReadsAll s.heap its.toArray.toList ds as := hr
    have hn : its.toArray.size = ds.length := PySem.W.readsAll_len hr
    refine call_max_walkH (PySem.W.iter_tupleW (A := X.A.in1) (I.ok.hd hc) hl fun s₂ e W st hfp hw hk => ?_)
    refine ⟨_, _, _, _, _, _, _, s.heap, _, rfl, W, st, hfp, by omega, hw, hk, PySem.W.cmpIn_gt (A := X.A.in1) hr hal (by show X.A.units + 1 + _ < _; omega), fun v s' hP m => ?_⟩
    obtain ⟨h', tk, rfl, hk'⟩ := PySem.W.moved_old e rfl m
    rw [hn] at hP
    obtain ⟨x, hx, rx⟩ := vals_at rv (by simpa using hP)
    exact ⟨x, H, I.kept hk', rx, q x hx⟩
theorem Rep.sq_both {v : V} {d : D} {F : List Addr} {ps : List P} (h : Rep K H v d F) (e : seqOf d = some ps) : ∃ xs, ((∃ a, v = .ref a ∧ SqL K H a xs) ∨ (∃ a, v = .ref a ∧ SqT K H a xs)) ∧ PReps K H xs ps := by
  cases d with
  | lst qs =>
    cases e
    obtain ⟨a, xs, rfl, s1, q1, _⟩ := h.lst_of
    exact ⟨xs, .inl ⟨a, rfl, SqL.of s1⟩, q1⟩
  | imm p =>
    cases p with
    | tup qs =>
      cases e
      obtain ⟨a, xs, rfl, s1, q1⟩ := h.tup_of
      exact ⟨xs, .inr ⟨a, rfl, s1⟩, q1⟩
    | lst qs =>
      cases e
      obtain ⟨a, xs, rfl, s1, q1⟩ := h.flst_of
      exact ⟨xs, .inl ⟨a, rfl, s1.sql⟩, q1⟩
    | _ => cases e
theorem best_ok {f : P → P → Bool} {g : PyData → PyData → Bool} (hfg : ∀ a b, g (toPy a) (toPy b) = f a b) {v : V} {x : D} {F : List Addr} {p : P} {ps : List P} {Q : VK} (r1 : Rep K H v x F) (h1 : seqOf x = some (p :: ps)) (hm : minOk (p :: ps) = true)
    (hQ : ∀ u, PRep K H u (ps.foldl (fun a y => if f y a then y else a) p) → Q u H) : rBest K g [v] H Q := by
  obtain ⟨xs, hs, q1⟩ := r1.sq_both h1
  obtain ⟨m1, m2⟩ := minOk_of hm
  refine ⟨v, toPys (p :: ps), xs, rfl, hs, q1.dp, m1, by rw [toPys_map]; simp, m2, fun u hu => ?_⟩
  have hl : (toPys (p :: ps)).length - 1 = ps.length := by rw [toPys_map, List.length_map, List.length_cons]; omega
  rw [hl] at hu
  obtain ⟨q, hq, rq⟩ := q1.getV hu
  rw [ltD_argBest f g hfg p ps] at hq
  cases hq
  exact hQ u rq
theorem ok_minL : OpOk K (rBest K PySem.W.dataLt) (opSem .minL) := by
  intro vs ds H Q d pk h hQ
  match ds, pk, h with
  | [x], pk, h =>
    obtain ⟨v, F, rfl, r1⟩ := pk.one
    obtain ⟨ps, h1, h2⟩ := bind_some (show opMinL x = some d from h)
    cases ps with
    | nil => cases h2
    | cons p ps =>
      have h2 : (if minOk (p :: ps) then some (D.imm (minD p ps)) else none) = some d := h2
      split at h2
      · rename_i hm
        cases h2
        exact best_ok (f := ltD) (fun _ _ => rfl) r1 h1 hm fun u hu => fin_imm (r := True) hQ hu
      · cases h2
theorem ok_maxL : OpOk K (rBest K fun a b => PySem.W.dataLt b a) (opSem .maxL) := by
  intro vs ds H Q d pk h hQ
  match ds, pk, h with
  | [x], pk, h =>
    obtain ⟨v, F, rfl, r1⟩ := pk.one
    obtain ⟨ps, h1, h2⟩ := bind_some (show opMaxL x = some d from h)
    cases ps with
    | nil => cases h2
    | cons p ps =>
      have h2 : (if minOk (p :: ps) then some (D.imm (maxD p ps)) else none) = some d := h2
      split at h2
      · rename_i hm
        cases h2
        exact best_ok (f := fun a b => ltD b a) (fun _ _ => rfl) r1 h1 hm fun u hu => fin_imm (r := True) hQ hu
      · cases h2
/-! ### sorted -/
section
variable {prog : Program} {w : World} {A : Around} {E : Value → Shared → Prop} {s : Shared}
theorem collect_tup {l : Addr} {vs : List Value} {Q : List Value → Shared → Prop} (hl : s.heap.IsTuple l vs.toArray)
    (h : Q vs { s with heap := (s.heap.push (seqObj "list" #[] 0)).update s.heap.objs.size (Obj.mapSeq (· ++ vs.toArray)) }) (hsz : vs.length ≤ sizeLine) :
    wpAny (model prog w) A (collect (.ref l)) Q E s := by
  obtain ⟨o, ho, hc, n, hd⟩ := id hl
  unfold collect
  refine wpAny_bind (wpAny_runValue (codeAny_builtin entry_proto_collect' ?_))
  show wpAny _ _ (do again (.builtin "list.__iadd__" ⟨[← newList [], .ref l], []⟩)) _ _ s
  refine wpAny_bind (wpAny_newList (wpAny_pure ⟨Code.quiet_builtin _ (by decide +kernel), codeAny_builtin entry_list_iadd' ?_⟩))
  show wpAny _ _ (Builtin.List.listExtendWith (.ref s.heap.objs.size) (.ref l) (.ref s.heap.objs.size)) _ _ { s with heap := s.heap.push (seqObj "list" #[] 0) }
  unfold Builtin.List.listExtendWith
  have ho' : (s.heap.push (seqObj "list" #[] 0)).get? l = some o := Heap.get?_push_of_some _ ho
  refine wpAny_bind (wpAny_typeOf (T := "tuple") ⟨o, ho', hc⟩ ?_)
  have ht : (Value.type "tuple" == Value.type "tuple") = true := by rfl
  rw [if_pos (by rw [ht]; simp)]
  refine wpAny_bind (listItems_at ho' hd ?_)
  refine wpAny_bind (listItems_at (xs := #[]) (n := 0) (Heap.get?_push_size _ rfl) rfl ?_)
  rw [if_neg (by simp)]
  refine wpAny_bind (listUpdate_at (xs := #[]) (n := 0) (Heap.get?_push_size _ rfl) rfl ?_ (Nat.zero_le _) (by show (#[] ++ vs.toArray).size ≤ sizeLine + 1; simp only [Array.size_append, List.size_toArray, List.length_nil]; omega))
  refine wpAny_pure ?_
  show wpAny (model prog w) A (do
      let o ← load s.heap.objs.size
      match o.data with
      | .seq xs _ => pure xs.toList
      | _ => unsupported "internal:collect") Q E { s with heap := (s.heap.push (seqObj "list" #[] 0)).update s.heap.objs.size (Obj.mapSeq (· ++ vs.toArray)) }
  refine wpAny_bind (wpAny_load (PyProof.Rows.get?_update_seq (Heap.get?_push_size _ rfl) _) ?_)
  show wpAny _ _ (pure ((#[] : Array Value) ++ vs.toArray).toList) Q E _
  rw [show ((#[] : Array Value) ++ vs.toArray).toList = vs by simp]
  exact wpAny_pure h
theorem sorted_of_sortT {l : Addr} {vs : List Value} {Q : Value → Shared → Prop} (hl : s.heap.IsTuple l vs.toArray) (hL : vs.length ≤ sizeLine)
    (body : ∀ E' : Value → Shared → Prop, wpAny (model prog w) A.in1.in1 (Builtin.«list.sort» ⟨[.ref (s.heap.objs.size + 1)], []⟩) (fun f s' => f = .done (.ret .none) ∧ Q (.ref (s.heap.objs.size + 1)) s') E' { s with heap := PySem.W.copyHeap s.heap vs }) :
    wpAny (model prog w) A (call (.builtin "sorted") [.ref l] []) Q E s := by
  refine call_function_entry_kw kind_sorted plain_sorted entry_sorted (args_sorted1 _) ?_
  unfold Builtin.«sorted»
  refine wpAny_bind (m := checkCount "sorted" 1 1 _) (wpAny_pure ?_)
  refine wpAny_bind (collect_tup hl ?_ hL)
  refine wpAny_bind (wpAny_newList ?_ hL)
  have hsz : ((s.heap.push (seqObj "list" #[] 0)).update s.heap.objs.size (Obj.mapSeq (· ++ vs.toArray))).objs.size = s.heap.objs.size + 1 := by
    rw [Heap.size_update, size_push']
  show wpAny _ _ _ _ _ { s with heap := PySem.W.copyHeap s.heap vs }
  rw [hsz]
  refine wpAny_bind (wpAny_holding (wpAny_call_entry_kw slot_list_sort ⟨_, PySem.W.copyHeap_at s.heap vs, rfl⟩ entry_list_sort ?body (args_list_sort _)))
  case body =>
    show wpAny (model prog w) A.in1.in1 (Builtin.«list.sort» ⟨[.ref (s.heap.objs.size + 1)], []⟩) _ _ _
    refine wpAny_mono (body _) (fun f s' hf => ?_) fun _ _ e => e
    obtain ⟨rfl, hq⟩ := hf
    exact ⟨_, rfl, wpAny_pure ⟨_, rfl, hq⟩⟩
theorem sorted_dataT {β : Type} {vs : List Value} {bs : List β} {enc : β → PyData} {R : Value → β → Prop} {l : Addr} {Q : Value → Shared → Prop} (hl : s.heap.IsTuple l vs.toArray) (e : PySem.W.EachIs R vs bs) (er : PySem.W.EachIs (fun v b => ∃ as, Reads s.heap v (enc b) as) vs bs) (hal : PySem.W.AllAlike (bs.map enc)) (hk : PySem.W.Sortable (bs.map enc)) (hL : bs.length ≤ sizeLine)
    (hu : ∀ b, b ∈ bs → A.units + 2 + (enc b).depth < cLine) (h : ∀ out, out.length = bs.length → PySem.W.EachIs R out (bs.mergeSort (PySem.W.dataLe false enc)) → Q (.ref (s.heap.objs.size + 1)) { s with heap := PyProof.Rows.sortedAll s.heap vs (List.toArray out) }) :
    wpAny (model prog w) A (call (.builtin "sorted") [.ref l]) Q E s := by
  have er' : PySem.W.EachIs (fun v b => ∃ as, Reads (PySem.W.sortingHeap (PySem.W.copyHeap s.heap vs) (s.heap.objs.size + 1) vs) v (enc b) as) vs bs := er.mono fun _ _ ⟨as, r⟩ => ⟨as, PyProof.Rows.Reads.keeps (fun _ _ => PySem.W.sorting_copy_old) r⟩
  exact sorted_of_sortT hl (by rw [e.length]; exact hL) fun _ => PySem.W.list_sort_vals (s := { s with heap := PySem.W.copyHeap s.heap vs }) (PySem.W.copyHeap_at s.heap vs)
    (PySem.W.SortsAt.data (s := { s with heap := PySem.W.sortingHeap (PySem.W.copyHeap s.heap vs) (s.heap.objs.size + 1) vs }) (PySem.W.each_map (R := fun v d => ∃ as, Reads (PySem.W.sortingHeap (PySem.W.copyHeap s.heap vs) (s.heap.objs.size + 1) vs) v d as) enc er') hal hk (PySem.W.bound_map hu)) (by rw [e.length]; exact hL)
    ⟨rfl, h _ (by rw [PySem.W.sortVals_length false rfl]; exact e.length) (PySem.W.sortVals_data false e er' hal)⟩
end
/-- sorted(xs) -/
def rSortD (K : PySem.W.Frag) : List V → Hp → VK → Prop := fun vs H Q => ∃ v xs ps, vs = [v] ∧ ((∃ a, v = .ref a ∧ SqL K H a xs) ∨ (∃ a, v = .ref a ∧ SqT K H a xs)) ∧ PReps K H xs ps ∧ sortOk ps = true ∧
  ∀ ys p, PReps K H ys (sortD ps) → H p = none → Q (.ref p) (upd H p (.lst ys))
theorem each_vals : ∀ {xs : List V} {us : List Value} {ps : List P}, Vals xs us → xs.length = ps.length → PySem.W.EachIs (fun v (b : V × P) => RelV b.1 v) us (xs.zip ps)
  | [], _, [], .nil, _ => .nil
  | x :: xs, _, p :: ps, .cons r t, h => .cons r (each_vals t (by simpa using h))
  | [], _, _ :: _, _, h => by simp at h
  | _ :: _, _, [], _, h => by simp at h
theorem vals_each : ∀ {us : List Value} {bs : List (V × P)}, PySem.W.EachIs (fun v (b : V × P) => RelV b.1 v) us bs → Vals (bs.map (·.1)) us
  | _, _, .nil => .nil
  | _, _, .cons r t => .cons r (vals_each t)
theorem reps_zip : ∀ {xs : List V} {ps : List P}, PReps K H xs ps → ∀ b ∈ xs.zip ps, PRep K H b.1 b.2
  | _, _, .nil, b, h => nomatch h
  | _, _, .cons r t, b, h => by
    rw [List.zip_cons_cons] at h
    rcases List.mem_cons.mp h with rfl | h
    · exact r
    · exact reps_zip t b h
theorem reps_of_all : ∀ {bs : List (V × P)}, (∀ b ∈ bs, PRep K H b.1 b.2) → PReps K H (bs.map (·.1)) (bs.map (·.2))
  | [], _ => .nil
  | b :: bs, h => .cons (h b List.mem_cons_self) (reps_of_all fun c hc => h c (List.mem_cons_of_mem _ hc))
theorem zip_snd : ∀ {xs : List V} {ps : List P}, xs.length = ps.length → (xs.zip ps).map (·.2) = ps
  | [], [], _ => rfl
  | x :: xs, p :: ps, h => by rw [List.zip_cons_cons, List.map_cons, zip_snd (by simpa using h)]
  | [], _ :: _, h => by simp at h
  | _ :: _, [], h => by simp at h
theorem each_reads {X : Cx} {pins : List (Addr × Obj)} {σ : L2.St} {s : Shared} (I : Inv X pins σ H s) : ∀ {xs : List V} {us : List Value} {ps : List P}, Vals xs us → PReps X.K H xs ps → PySem.W.EachIs (fun v (b : V × P) => ∃ as, Reads s.heap v (toPy b.2) as) us (xs.zip ps)
  | _, _, _, .nil, .nil => .nil
  | _, _, _, .cons r t, .cons a b => .cons (Dp.reads I _ _ _ a.dp r) (each_reads I t b)
theorem sortOk_of {ps : List P} {xs : List V} (hl : xs.length = ps.length) (h : sortOk ps = true) : PySem.W.AllAlike ((xs.zip ps).map fun b => toPy b.2) ∧ PySem.W.Sortable ((xs.zip ps).map fun b => toPy b.2) ∧ ps.length ≤ line ∧ ∀ b ∈ xs.zip ps, (toPy b.2).depth ≤ 50 := by
  have e : (xs.zip ps).map (fun b => toPy b.2) = toPys ps := by
    rw [toPys_map]
    have := congrArg (List.map toPy) (zip_snd hl)
    rwa [List.map_map] at this
  unfold sortOk at h
  simp only [Bool.and_eq_true, decide_eq_true_eq] at h
  obtain ⟨⟨⟨h1, h2⟩, h3⟩, h4⟩ := h
  refine ⟨?_, ?_, h4, fun b hb => ?_⟩
  · rw [e]
    exact alikes_of h1
  · rw [e, toPys_map]
    rcases Bool.or_eq_true_iff.mp h2 with h | h
    · refine .inl fun d hd => ?_
      obtain ⟨p, hp, rfl⟩ := List.mem_map.mp hd
      have := List.all_eq_true.mp h p hp
      match p, this with
      | .tup (a :: r), _ => exact ⟨toPy a, toPys r, by simp [toPy, toPys]⟩
    · refine .inr fun d hd => ?_
      obtain ⟨p, hp, rfl⟩ := List.mem_map.mp hd
      have := List.all_eq_true.mp h p hp
      cases p <;> simp [isNonP, isTupP, toPy] at this ⊢
  · rw [depth_py]
    have hm : b.2 ∈ ps := by
      have : b.2 ∈ (xs.zip ps).map (·.2) := List.mem_map.mpr ⟨b, hb, rfl⟩
      rwa [zip_snd hl] at this
    have : ∀ qs : List P, b.2 ∈ qs → depth b.2 ≤ depths qs := by
      intro qs
      induction qs with
      | nil => intro h; cases h
      | cons q qs ih =>
        intro h
        simp only [depths]
        rcases List.mem_cons.mp h with h | h
        · rw [h]; exact Nat.le_max_left ..
        · exact Nat.le_trans (ih h) (Nat.le_max_right ..)
    exact Nat.le_trans (this ps hm) h3
theorem cr_sortD {X : Cx} (hu : X.A.units + 64 < cLine) : CallR X (.builtin "sorted") (rSortD X.K) := by
  intro pins s σ H vs us Q I r h
  obtain ⟨v, xs, ps, rfl, hs, hp, ho, q⟩ := h
  obtain ⟨u, rfl, ru⟩ := Vals.one r
  have hl := hp.length
  obtain ⟨s1, s2, s3, s4⟩ := sortOk_of hl ho
  have fin : ∀ (its out : List Value), Vals xs its → out.length = (xs.zip ps).length → PySem.W.EachIs (fun v (b : V × P) => RelV b.1 v) out ((xs.zip ps).mergeSort (PySem.W.dataLe false fun b => toPy b.2)) →
      EP X pins σ Q (.ref (s.heap.objs.size + 1)) { s with heap := PyProof.Rows.sortedAll s.heap its (List.toArray out) } := fun its out rv ho1 ho2 => by
    have hz : (xs.zip ps).length = ps.length := by rw [List.length_zip, hl, Nat.min_self]
    obtain ⟨ep, he'⟩ := PyProof.Rows.sortedAll_at s.heap its out.toArray
    have e2 : ((xs.zip ps).mergeSort (PySem.W.dataLe false fun b => toPy b.2)).map (·.2) = sortD ps := by
      have h1 := List.map_mergeSort (r := PySem.W.dataLe false fun b : V × P => toPy b.2) (s := fun a b => !ltD b a) (f := (·.2)) (l := xs.zip ps) (fun a _ b _ => rfl)
      rw [h1, zip_snd hl]
      rfl
    have hall : ∀ b ∈ (xs.zip ps).mergeSort (PySem.W.dataLe false fun b => toPy b.2), PRep X.K H b.1 b.2 := fun b hb => reps_zip hp b ((List.mergeSort_perm _ _).mem_iff.mp hb)
    have hr := reps_of_all hall
    rw [e2] at hr
    have hlen : (((xs.zip ps).mergeSort (PySem.W.dataLe false fun b => toPy b.2)).map (·.1)).length ≤ sizeLine := by
      rw [List.length_map, (List.mergeSort_perm _ _).length_eq, hz]
      exact le_line s3
    exact ⟨.ref _, upd H (s.heap.objs.size + 1) (.lst (((xs.zip ps).mergeSort (PySem.W.dataLe false fun b => toPy b.2)).map (·.1))), I.laid (t' := s.toks) (fun _ _ => PyProof.Rows.sortedAll_old) (Nat.le_succ _) ⟨hlen, out, ep, vals_each ho2, he'⟩, rfl, q _ _ hr (I.hok.fresh (Nat.le_succ _))⟩
  have hbl : (xs.zip ps).length ≤ sizeLine := by
    rw [List.length_zip, hl, Nat.min_self]
    exact le_line s3
  rcases hs with ⟨a, rfl, hs⟩ | ⟨a, rfl, hs⟩
  · obtain ⟨its, rv, hla, hz⟩ := I.list hs
    cases ru
    exact PySem.W.sorted_data hla.isList (each_vals rv hl) (each_reads I rv hp) s1 s2 hbl (fun b hb => by have := s4 b hb; omega) fun out h1 h2 => fin its out rv h1 h2
  · obtain ⟨its, rv, hla, hz⟩ := I.tuple hs
    cases ru
    exact sorted_dataT hla (each_vals rv hl) (each_reads I rv hp) s1 s2 hbl (fun b hb => by have := s4 b hb; omega) fun out h1 h2 => fin its out rv h1 h2
theorem ok_sorted : OpOk K (rSortD K) (opSem .sorted) := by
  intro vs ds H Q d pk h hQ
  match ds, pk, h with
  | [x], pk, h =>
    obtain ⟨v, F, rfl, r1⟩ := pk.one
    obtain ⟨ps, h1, h2⟩ := bind_some (show opSorted x = some d from h)
    split at h2
    · rename_i ho
      cases h2
      obtain ⟨xs, hs, q1⟩ := r1.sq_both h1
      exact ⟨v, xs, ps, rfl, hs, q1, ho, fun ys p hy hp => fin_lst hQ hp hy⟩
    · cases h2
end
end Sw
set_option maxHeartbeats 1000000
/-! Sw, part 7c: letters, repr. -/
namespace Sw
open PySem PySem.Spec PyProof.Rows L2
theorem placed_map {s : List Nat} {f : Nat → Nat → List Nat} {g : Nat → Nat} (h : ∀ (i c : Nat), s[i]? = some c → f i c = [g c]) : placed (sOf s) f = (s.map g).toArray := by
  unfold placed sOf
  rw [List.mapIdx_toArray]
  have e : List.mapIdx (fun i c => (f i c).toArray) s = (s.map fun c => #[g c]) := by
    apply List.ext_getElem?
    intro i
    rw [List.getElem?_mapIdx, List.getElem?_map]
    cases q : s[i]? with
    | none => rfl
    | some c => simp [h i c q]
  rw [e]
  apply Array.ext'
  rw [Array.toList_flatten]
  simp
  have : ∀ l : List Nat, (List.map (fun x => [g x]) l).flatten = List.map g l := fun l => by
    induction l with
    | nil => rfl
    | cons a l ih => rw [List.map_cons, List.flatten_cons, ih] <;> rfl
  first | exact this s | (simpa [Function.comp_def] using this s)
theorem low_at : ∀ c, c < 128 → Unicode.lowerOf c = [loC c] := by decide +kernel
theorem up_at : ∀ c, c < 128 → Unicode.upperOf c = [upC c] := by decide +kernel
theorem sw_at : ∀ c, c < 128 → (if Unicode.isUpper c then Unicode.lowerOf c else if Unicode.isLower c then Unicode.upperOf c else [c]) = [swC c] := by decide +kernel
theorem ascii_of {s : List Nat} (h : ascii s = true) : (∀ c ∈ s, c < 128) ∧ s.length ≤ 5000000 := by
  unfold ascii at h
  rw [Bool.and_eq_true, decide_eq_true_eq] at h
  exact ⟨fun c hc => by simpa using List.all_eq_true.mp h.1 c hc, h.2⟩
theorem lowAt_of {s : List Nat} {i c : Nat} (hc : s[i]? = some c) (h : c < 128) : Unicode.lowerAt (sOf s).cps i = [loC c] := by
  unfold Unicode.lowerAt
  have e : (sOf s).cps[i]? = some c := by simpa [sOf] using hc
  rw [e]
  have : (c == 0x3A3) = false := beq_eq_false_iff_ne.mpr (by omega)
  simp only [this, Bool.false_and, Bool.false_eq_true, if_false]
  exact low_at c h
theorem lower_is {s : List Nat} (h : ascii s = true) : Txt.lower (sOf s) = sOf (s.map loC) := by
  unfold Txt.lower
  rw [placed_map (g := loC) fun i c hc => lowAt_of hc ((ascii_of h).1 c (List.mem_of_getElem? hc))]
  rfl
theorem upper_is {s : List Nat} (h : ascii s = true) : Txt.upper (sOf s) = sOf (s.map upC) := by
  unfold Txt.upper
  rw [placed_map (g := upC) fun i c hc => up_at c ((ascii_of h).1 c (List.mem_of_getElem? hc))]
  rfl
theorem swap_is {s : List Nat} (h : ascii s = true) : Txt.swapcase (sOf s) = sOf (s.map swC) := by
  unfold Txt.swapcase
  rw [placed_map (g := swC) fun i c hc => ?_]
  · rfl
  · have h1 := (ascii_of h).1 c (List.mem_of_getElem? hc)
    rw [lowAt_of hc h1, ← low_at c h1]
    exact sw_at c h1
theorem lo_lt : ∀ c, c < 128 → loC c < 0x110000 := fun c h => by unfold loC; split <;> omega
theorem up_lt : ∀ c, c < 128 → upC c < 0x110000 := fun c h => by unfold upC; split <;> omega
theorem sw_lt : ∀ c, c < 128 → swC c < 0x110000 := fun c h => by unfold swC; split <;> (try split) <;> omega
theorem chrOk_map {s : List Nat} {g : Nat → Nat} (h : ascii s = true) (hg : ∀ c, c < 128 → g c < 0x110000) : chrOk (s.map g) = true := by
  unfold chrOk
  rw [List.all_map, List.all_eq_true]
  intro c hc
  exact decide_eq_true (hg c ((ascii_of h).1 c hc))
section
variable {K : PySem.W.Frag} {H : Hp}
def rTx (F : Str → Str) : V → List V → Hp → VK → Prop := fun x xs H Q => ∃ a, x = .str a ∧ xs = [] ∧ a.length ≤ 5592405 ∧ Q (.str (F a)) H
theorem mt_swapcase {X : Cx} : MtR X "str.swapcase" (fun x xs H Q => ∃ a, x = .str a ∧ xs = [] ∧ (a.length ≤ 5592405 ∧ (Txt.swapcase a).length ≤ 5592405) ∧ Q (.str (Txt.swapcase a)) H) :=
  mt0 (C := fun a => a.length ≤ 5592405 ∧ (Txt.swapcase a).length ≤ 5592405) (g := fun a => .str (Txt.swapcase a)) fun a _ s _ hc h =>
    PySem.SC.swapcase (PyProof.Rows.short24 (by have h1 := hc.2; omega)) (h _ (s.toks + 1) ⟨_, rfl⟩)
def rTx2 (F : Str → Str) : V → List V → Hp → VK → Prop := fun x xs H Q => ∃ a, x = .str a ∧ xs = [] ∧ (a.length ≤ 5592405 ∧ (F a).length ≤ 5592405) ∧ Q (.str (F a)) H
theorem opTx_inv {g : Nat → Nat} {x d : D} (h : opTx g x = some d) : ∃ s, x = .imm (.str s) ∧ ascii s = true ∧ d = .imm (.str (s.map g)) := by
  unfold opTx at h
  split at h
  · split at h
    · rename_i c
      cases h
      exact ⟨_, rfl, c, rfl⟩
    · cases h
  · cases h
theorem ok_tx {o : Op} {g : Nat → Nat} {F : Str → Str} (hs : ∀ x, opSem o [x] = opTx g x) (hs0 : opSem o [] = none) (hs2 : ∀ x y r, opSem o (x :: y :: r) = none) (hF : ∀ s, ascii s = true → F (sOf s) = sOf (s.map g)) (hg : ∀ c, c < 128 → g c < 0x110000) : OpOk K (fun vs H Q => ∃ x xs, vs = x :: xs ∧ rTx2 F x xs H Q) (opSem o) := by
  intro vs ds H Q d pk h hQ
  match ds, pk, h with
  | [], _, h => rw [hs0] at h; cases h
  | x :: y :: r, _, h => rw [hs2] at h; cases h
  | [x], pk, h =>
    rw [hs] at h
    obtain ⟨v, F0, rfl, r1⟩ := pk.one
    obtain ⟨s, rfl, ha, rfl⟩ := opTx_inv h
    obtain ⟨rfl, _⟩ := r1.str_of
    have hl := (ascii_of ha).2
    refine ⟨_, [], rfl, sOf s, rfl, rfl, ⟨by rw [sOf_len]; omega, by rw [hF s ha, sOf_len, List.length_map]; omega⟩, ?_⟩
    rw [hF s ha]
    exact fin_imm (r := True) hQ (.str _ (chrOk_map ha hg))
theorem ok_swapcase : OpOk K (fun vs H Q => ∃ x xs, vs = x :: xs ∧ rTx2 Txt.swapcase x xs H Q) (opSem .swapcase) := ok_tx (g := swC) (fun _ => rfl) rfl (fun _ _ _ => rfl) (fun _ => swap_is) sw_lt
theorem ok_lower : OpOk K (fun vs H Q => ∃ x xs, vs = x :: xs ∧ rTx2 Txt.lower x xs H Q) (opSem .lower) := ok_tx (g := loC) (fun _ => rfl) rfl (fun _ _ _ => rfl) (fun _ => lower_is) lo_lt
theorem ok_upper : OpOk K (fun vs H Q => ∃ x xs, vs = x :: xs ∧ rTx2 Txt.upper x xs H Q) (opSem .upper) := ok_tx (g := upC) (fun _ => rfl) rfl (fun _ _ _ => rfl) (fun _ => upper_is) up_lt
theorem mt_lower2 {X : Cx} : MtR X "str.lower" (rTx2 Txt.lower) := fun pins s σ H x xs v us Q I rx rxs h => mt_lower pins s σ H x xs v us Q I rx rxs (by obtain ⟨a, h1, h2, h3, h4⟩ := h; exact ⟨a, h1, h2, h3.1, h4⟩)
theorem mt_upper2 {X : Cx} : MtR X "str.upper" (rTx2 Txt.upper) := fun pins s σ H x xs v us Q I rx rxs h => mt_upper pins s σ H x xs v us Q I rx rxs (by obtain ⟨a, h1, h2, h3, h4⟩ := h; exact ⟨a, h1, h2, h3.1, h4⟩)
/-! ### repr -/
def reprB (b : Bool) : List Nat := if b then [84, 114, 117, 101] else [70, 97, 108, 115, 101]
def rRepr : List V → Hp → VK → Prop := fun vs H Q => (∃ b, vs = [.bl b] ∧ Q (.str (sOf (reprB b))) H) ∨ (vs = [.non] ∧ Q (.str (sOf [78, 111, 110, 101])) H)
theorem cr_repr {X : Cx} : CallR X (.builtin "repr") rRepr := by
  intro pins s σ H vs us Q I r h
  rcases h with ⟨b, rfl, q⟩ | ⟨rfl, q⟩
  · obtain ⟨u, rfl, ru⟩ := Vals.one r
    cases ru
    have e : (if b then ("True" : Str) else "False") = sOf (reprB b) := by cases b <;> decide +kernel
    exact PySem.P.repr_of_bool (by rw [e]; exact ⟨.str _, H, I.tok _, ⟨_, rfl⟩, q⟩)
  · obtain ⟨u, rfl, ru⟩ := Vals.one r
    cases ru
    have e : ("None" : Str) = sOf [78, 111, 110, 101] := by decide +kernel
    exact PySem.P.repr_of_none (by rw [e]; exact ⟨.str _, H, I.tok _, ⟨_, rfl⟩, q⟩)
theorem ok_repr : OpOk K rRepr (opSem .repr) := by
  intro vs ds H Q d pk h hQ
  match ds, pk, h with
  | [x], pk, h =>
    obtain ⟨v, F, rfl, r1⟩ := pk.one
    have h : opRepr x = some d := h
    unfold opRepr at h
    split at h
    · cases h
      obtain rfl := r1.bl_of
      exact .inl ⟨_, rfl, fin_imm (r := True) hQ (.str _ (by unfold reprB; split <;> decide))⟩
    · cases h
      obtain ⟨h, _⟩ := r1.imm_of
      cases h
      exact .inr ⟨rfl, fin_imm (r := True) hQ (.str _ (by decide))⟩
    · cases h
end
end Sw
set_option maxHeartbeats 1000000
/-! Sw, part 8: index, isinstance, slices, changes of lists. -/
namespace Sw
open PySem PySem.Spec PyProof.Rows L2
section
variable {K : PySem.W.Frag} {H : Hp}
theorem lay_plain {d : PyData} (h : d.canLay0 = true) : d.plain = true := PyData.plain_of_canLay0 d h
theorem layAll_plain {ds : List PyData} (h : PyData.canLayAll0 ds = true) : PyData.plainAll ds = true := by
  have := lay_plain (d := .list ds) (by simpa [PyData.canLay0] using h)
  simpa [PyData.plain] using this
/-! ### x.index(y) -/
theorem mt_indexP {X : Cx} (hu : X.A.units + 64 < cLine) : MtR X "list.index" (rIndexP X.K) := by
  intro pins s σ H x xs v us Q I rx rxs h
  obtain ⟨a, y, d, ds, j, z, rfl, rfl, hl, hy, hxs, sd, hm, hz, hzj, hno, q⟩ := h
  cases rx
  cases rxs with
  | cons ry rt =>
    rename_i uy ut
    cases rt
    obtain ⟨bs, r1⟩ := Dp.reads I d y uy hy ry
    have hroom : X.A.units + 1 + min (PyData.depthAll ds) d.depth < cLine := by omega
    cases hl with
    | lst hs ha =>
      obtain ⟨its, rv, ⟨⟨cls, dd, data, sls⟩, n, ho, hc, hdn, hdt⟩, hlen⟩ := I.list hs
      simp only at hc hdt
      subst hc hdt
      obtain ⟨as, h4⟩ := Dp.readsAll I ds _ its ha rv
      have hn : its.length = ds.length := SeqAt.ReadsAll.length ds its as h4
      have hmap : its.map (SeqAt.readOf s.heap) = ds := SeqAt.readsAll_map ds its as hxs h4
      have hvl := rv.length
      have hsl := sizeLine_is
      obtain ⟨hjd, _⟩ := List.getElem?_eq_some_iff.mp hz
      have hjl : j < its.length := by omega
      have hj : j < its.toArray.size := by simpa using hjl
      have at_ : ∀ (m : Nat) (hm : m < its.toArray.size) (z' : PyData), ds[m]? = some z' → SeqAt.readOf s.heap its.toArray[m] = z' := by
        intro m hm z' hz'
        have hml : m < its.length := by simpa using hm
        rw [← hmap, List.getElem?_map, List.getElem?_eq_getElem hml] at hz'
        have e1 : SeqAt.readOf s.heap its[m] = z' := Option.some.inj (show some (SeqAt.readOf s.heap its[m]) = some z' from hz')
        simpa using e1
      refine call_meets PySem.F.slot_list_index ⟨_, ho, rfl⟩ PySem.F.entry_list_index (PySem.F.args_list_index_2 _ _)
        (SeqAt.list_indexAt a its.toArray n dd sls uy (fun u => PyData.eqv (SeqAt.readOf s.heap u) d) j hj (by omega) ?_ ?_) ⟨ho, SeqAt.items_eqAt (vs := its.toArray) (show ReadsAll s.heap its.toArray.toList ds as from h4) r1 hxs sd hroom, ?_⟩
      · show PyData.eqv (SeqAt.readOf s.heap its.toArray[j]) d = true
        rw [at_ j hj z hz]
        exact hzj
      · intro m hm hmj
        have hmd : m < ds.length := by omega
        have hz' : ds[m]? = some ds[m] := List.getElem?_eq_getElem hmd
        show PyData.eqv (SeqAt.readOf s.heap its.toArray[m]) d = false
        rw [at_ m hm _ hz']
        exact hno m _ hmj hz'
      · exact ⟨.int (j : Nat), H, I.tok _, ⟨_, rfl⟩, q⟩
theorem ok_index : OpOk K (m2n (rIndexP K)) (opSem .index) := by
  intro vs ds H Q d pk h hQ
  match ds, pk, h with
  | [x, y], pk, h =>
    obtain ⟨v, u, F, G, rfl, r1, r2⟩ := pk.two
    have h : opIndex x y = some d := h
    unfold opIndex at h
    split at h
    all_goals first
      | (cases h; done)
      | (split at h
         · rename_i c
           obtain ⟨k, h1, h2⟩ := bind_some h
           obtain rfl := ii_inv h2
           obtain ⟨q2, _⟩ := r2.imm_of
           obtain ⟨⟨z, g1, g2⟩, g3⟩ := idxOf_spec _ h1
           have hd := r1.dp
           have hl := r1.lay
           obtain ⟨a, xs, rfl, s1, q1⟩ := r1.list_of rfl
           exact ⟨_, _, rfl, a, u, toPy _, toPys _, k, z, rfl, rfl, hd, q2.dp, by simpa [rd, toPy, PyData.canLay0] using hl, q2.lay, by rw [depth_py, depths_py]; exact c, g1, g2, g3, fin_imm (r := True) hQ (.int _)⟩
         · cases h)
/-! ### isinstance -/
def tyName : Ty → String
  | .int => "int"
  | .bool => "bool"
  | .str => "str"
  | .tuple => "tuple"
  | .list => "list"
def isTyD (d : PyData) : Ty → Bool
  | .int => d.isInt
  | .bool => d.isBool
  | .str => d.isStr
  | .tuple => d.isTuple
  | .list => d.isList
theorem isTy_py (p : P) (t : Ty) : isTyD (toPy p) t = isTy p t := by
  cases t <;> cases p <;> simp [isTyD, isTy, toPy, PyData.isInt, PyData.isBool, PyData.isStr, PyData.isTuple, PyData.isList]
def tyOfD : PyData → String
  | .none => "NoneType"
  | .bool _ => "bool"
  | .int _ => "int"
  | .str _ => "str"
  | .list _ => "list"
  | .tuple _ => "tuple"
  | .dict _ => "dict"
theorem kit_tab (t : Ty) : kitB "NoneType" (tyName t) = some false ∧ kitB "bool" (tyName t) = some (isTyD (.bool true) t) ∧ kitB "int" (tyName t) = some (isTyD (.int 0) t) ∧ kitB "str" (tyName t) = some (isTyD (.str Str.empty) t) ∧
    kitB "list" (tyName t) = some (isTyD (.list []) t) ∧ kitB "tuple" (tyName t) = some (isTyD (.tuple []) t) := by
  cases t <;> decide +kernel
theorem kit_d {K : PySem.W.Frag} {H : Hp} {v : V} {d : PyData} (h : Dp K H v d) (t : Ty) : PySem.W.kitOne K (.type (tyOfD d)) (.type (tyName t)) = some (isTyD d t) := by
  have e := kit_tab t
  cases h with
  | non => exact kit_ty (e.1.trans (by cases t <;> rfl))
  | bl b => exact kit_ty (e.2.1.trans (by cases t <;> rfl))
  | int i => exact kit_ty (e.2.2.1.trans (by cases t <;> rfl))
  | str x => exact kit_ty (e.2.2.2.1.trans (by cases t <;> rfl))
  | lst _ _ => exact kit_ty (e.2.2.2.2.1.trans (by cases t <;> rfl))
  | tup _ _ => exact kit_ty (e.2.2.2.2.2.trans (by cases t <;> rfl))
theorem dp_ty {K : PySem.W.Frag} {H : Hp} {v : V} {d : PyData} (h : Dp K H v d) : TyX K H v (.type (tyOfD d)) := by
  cases h with
  | non => exact .base .non
  | bl b => exact .base (.bl b)
  | int i => exact .base (.int i)
  | str x => exact .base (.str x)
  | lst s _ =>
    rcases s with (s | ⟨o, s⟩) | ⟨o, its, n, h1, h2, _⟩
    · exact .base (.lst s)
    · exact .base (.frz s)
    · exact .kList h1 h2
  | tup s _ =>
    rcases s with (s | ⟨o, s⟩) | ⟨o, its, n, h1, h2, _⟩
    · exact .base (.tup s)
    · exact .fTuple s
    · exact .kTuple h1 h2
theorem kitAny_d {K : PySem.W.Frag} {H : Hp} {v : V} {d : PyData} (h : Dp K H v d) : ∀ ts : List Ty, PySem.W.kitAny K (.type (tyOfD d)) (ts.map fun t => .type (tyName t)) = some (ts.any (isTyD d))
  | [] => rfl
  | t :: ts => kitAny_cons (b := isTyD d t) (kit_d h t) (fun e => by rw [kitAny_d h ts, List.any_cons, e] <;> rfl) fun e => by rw [List.any_cons, e] <;> rfl
theorem isi_one {K : PySem.W.Frag} {H : Hp} {v : V} {x : D} {F : List Addr} {t : Ty} {Q : VK} (r : Rep K H v x F) (q : Q (.bl (isTy (rd x) t)) H) : rIsi K [v, .ty (tyName t)] H Q :=
  ⟨v, .ty (tyName t), _, _, _, rfl, .ty _, dp_ty r.dp, kit_d r.dp t, by rw [isTy_py]; exact q⟩
theorem pair_tys : ∀ ts : List Ty, Paired ClsV (ts.map fun t => V.ty (tyName t)) (ts.map fun t => Value.type (tyName t))
  | [] => .nil
  | t :: ts => .cons (.ty _) (pair_tys ts)
theorem isi_many {K : PySem.W.Frag} {H : Hp} {v : V} {x : D} {F : List Addr} {ts : List Ty} {tp : Addr} {Q : VK} (r : Rep K H v x F) (h : H tp = some (.tup (ts.map fun t => .ty (tyName t)))) (q : Q (.bl (ts.any (isTy (rd x)))) H) : rIsiT K [v, .ref tp] H Q := by
  refine ⟨v, tp, _, _, ts.map fun t => .type (tyName t), _, rfl, h, ?_, dp_ty r.dp, kitAny_d r.dp ts, ?_⟩
  · exact pair_tys ts
  · have e : ts.any (isTyD (toPy (rd x))) = ts.any (isTy (rd x)) := by
      congr 1
      funext t
      exact isTy_py _ _
    rw [e]
    exact q
end
end Sw
set_option maxHeartbeats 1000000
/-! Sw, part 9: slices, truth, changes. -/
namespace Sw
open PySem PySem.Spec PyProof.Rows L2
section
variable {K : PySem.W.Frag} {H : Hp}
theorem sIxP_eq (n d : Nat) (o : Option Int) : sIxP n d o = HT.sIx n d o := by cases o <;> rfl
theorem cutV_rep {vs : List V} {ps : List P} (h : PReps K H vs ps) (lo hi : Option Int) : PReps K H (cutV vs lo hi) (cutP ps lo hi) := by
  unfold cutV cutP
  rw [sIxP_eq, sIxP_eq, h.length]
  exact (h.drop _).take _
theorem cutS_eq (s : List Nat) (lo hi : Option Int) : cutS (sOf s) lo hi = sOf (cutP s lo hi) := by
  unfold cutS cutP
  rw [sIxP_eq, sIxP_eq, sOf_cps, sOf_len] <;> rfl
theorem cutP_mem {α : Type} {xs : List α} {lo hi : Option Int} : ∀ x ∈ cutP xs lo hi, x ∈ xs := fun x h => List.mem_of_mem_drop (List.mem_of_mem_take h)
def rSlcD (K : PySem.W.Frag) : V → Option Int → Option Int → Hp → VK → Prop := fun x lo hi H Q => rSlL K x lo hi H Q ∨ rSlA K x lo hi H Q ∨ rSlS x lo hi H Q
theorem sl_D {X : Cx} : SlR X (rSlcD X.K) := sl_list.or (sl_tupA.or sl_str)
theorem slc_ok {v : V} {x d : D} {F : List Addr} {lo hi : Option Int} {Q : VK} (r : Rep K H v x F) (h : slcSem x lo hi = some d)
    (hQ : ∀ v H' F, Same H H' → Rep K H' v d F → (∀ a ∈ F, H a = none) → F.Nodup → Q v H') : rSlcD K v lo hi H Q := by
  unfold slcSem at h
  split at h
  · split at h
    · rename_i c
      cases h
      obtain ⟨rfl, c1⟩ := r.str_of
      refine .inr (.inr ⟨_, rfl, by rw [sOf_len]; exact le_line c, ?_⟩)
      rw [cutS_eq]
      exact fin_imm (r := True) hQ (.str _ (chrOk_sub c1 cutP_mem))
    · cases h
  · cases h
    obtain ⟨a, xs, rfl, s1, q1⟩ := r.tup_of
    refine .inr (.inl ⟨a, xs, rfl, s1, fun e => ?_, fun _ p hp => fin_tup hQ hp (cutV_rep q1 lo hi)⟩)
    rename_i ps
    have e2 : cutP ps lo hi = ps := by
      unfold cutP
      rw [sIxP_eq, sIxP_eq, ← q1.length, e.1, e.2, q1.length]
      simp
    rw [e2] at hQ
    exact fin_imm (r := True) hQ (.tup s1 q1)
  · cases h
    obtain ⟨a, xs, rfl, s1, q1⟩ := r.flst_of
    exact .inl ⟨a, xs, rfl, s1.sql, fun p hp => fin_lst hQ hp (cutV_rep q1 lo hi)⟩
  · cases h
    obtain ⟨a, xs, rfl, s1, q1, _⟩ := r.lst_of
    exact .inl ⟨a, xs, rfl, SqL.of s1, fun p hp => fin_lst hQ hp (cutV_rep q1 lo hi)⟩
  · cases h
/-! ### x[::-1] -/
section
variable {prog : Program} {w : World} {A : Around} {E : Value → Shared → Prop} {s : Shared}
theorem sliceApplied_rev {sl : Addr} {vs : Value} {n : Nat} {Q : Int × Int × Nat → Shared → Prop} (hs : s.heap.IsSliceOf sl .none .none vs) (pv : IsPart vs (some (-1)))
    (h : Q ((n : Int) - 1, -1, n) s) : wpAny (model prog w) A (Builtin.Slice.sliceApplied (.ref sl) (pure (n : Int))) Q E s := by
  obtain ⟨os, hos, hcs, hds⟩ := id hs
  unfold Builtin.Slice.sliceApplied Builtin.Slice.sliceFields
  refine wpAny_bind (wpAny_bind (wpAny_field hos hds (x := .none) rfl (wpAny_bind (wpAny_field hos hds (x := .none) rfl (wpAny_bind (wpAny_field hos hds (x := vs) rfl (wpAny_pure ?_)))))))
  refine wpAny_bind (HT.slicePart_ pv ?_)
  show wpAny _ _ (if ((-1 : Int) == 0) = true then _ else _) _ _ s
  rw [if_neg (by decide)]
  refine wpAny_bind (slicePart_none (wpAny_bind (slicePart_none (wpAny_bind (wpAny_pure ?_)))))
  have e : Builtin.Slice.slicePlaces ((n : Int) - 1) (-1) (-1) = n := by
    unfold Builtin.Slice.slicePlaces
    rw [if_neg (by decide)]
    by_cases c : (n : Int) - 1 > -1
    · rw [if_pos c, show (- -1 : Int) = 1 by decide, Int.ediv_one]; omega
    · rw [if_neg c]; omega
  show wpAny _ _ (pure ((n : Int) - 1, (-1 : Int), Builtin.Slice.slicePlaces ((n : Int) - 1) (-1) (-1))) _ _ s
  rw [e]
  exact wpAny_pure h
theorem fm_congr {α β : Type} {f g : α → Option β} : ∀ {l : List α}, (∀ x ∈ l, f x = g x) → l.filterMap f = l.filterMap g
  | [], _ => rfl
  | x :: l, h => by
    rw [List.filterMap_cons, List.filterMap_cons, h x List.mem_cons_self, fm_congr fun y z => h y (List.mem_cons_of_mem _ z)]
theorem pick_rev (xs : Array Value) : ((List.range xs.size).filterMap fun (m : Nat) => xs[((xs.size : Int) - 1 + (m : Int) * (-1)).toNat]?).toArray = xs.toList.reverse.toArray := by
  have e := PySem.W.krv_all xs
  have e2 := PySem.W.krv_range xs.size
  congr 1
  rw [← e, ← List.filterMap_reverse, ← e2, List.filterMap_map]
  apply fm_congr
  intro m hm
  have := List.mem_range.mp hm
  show xs[_]? = xs[xs.size - 1 - m]?
  congr 1
  omega
theorem getItem_tuple_rev {t sl : Addr} {items : Array Value} {vs : Value} {Q : Value → Shared → Prop} (ht : IsTup s.heap t items) (hs : s.heap.IsSliceOf sl .none .none vs) (pv : IsPart vs (some (-1)))
    (h : Q (.ref s.heap.objs.size) { s with heap := s.heap.push { cls := .type "tuple", data := .seq items.toList.reverse.toArray } })
    (hsz : items.size ≤ sizeLine) : wpAny (model prog w) A (getItem (.ref t) (.ref sl)) Q E s := by
  have htake : sizeOk (.seq items.toList.reverse.toArray) := by
    show items.toList.reverse.toArray.size ≤ sizeLine
    rw [List.size_toArray, List.length_reverse, Array.length_toList]
    exact hsz
  obtain ⟨os, hos, hcs, hds⟩ := id hs
  have hTs : s.TypeIs (.ref sl) "slice" := ⟨os, hos, hcs⟩
  unfold getItem
  try with_reducible refine wpAny_holding ?_
  first | refine wpAny_bind (wpAny_pure ?_) | skip
  refine wpAny_bind (wpAny_sequenceKey ht.typeIs (by decide) ?_)
  refine wpAny_bind (wpAny_callSpecial?_slot (name := Str.ofString "__getitem__") ht.typeIs PyProof.Rows.slot_tuple_getitem
    (wpAny_call_entry PyProof.Rows.slot_tuple_getitem ht.typeIs entry_tuple_getitem ?_ (args_tuple_getitem _ _)))
  show wpAny _ _ (Builtin.Tuple.tupleItemsOf (.ref t) >>= _) _ _ s
  refine wpAny_bind (tupleItemsOf_ ht ?_)
  refine wpAny_bind (wpAny_typeOf hTs ?_)
  rw [if_pos (by decide)]
  refine wpAny_bind (sliceApplied_rev hs pv ?_)
  show wpAny _ _ (if (((items.size : Int) - 1) == 0 && (-1 : Int) == 1 && items.size == items.size) = true then _ else _) _ _ s
  rw [if_neg (by simp), pick_rev]
  first
    | exact wpAny_bind (m := Builtin.Tuple.tupleExact _) (wpAny_newObj_type (wpAny_pure ⟨_, rfl, wpAny_pure h⟩) htake)
    | exact wpAny_bind (m := Builtin.Tuple.tupleExact _) (wpAny_newObj_type (wpAny_bind (wpAny_pure (wpAny_pure ⟨_, rfl, wpAny_pure h⟩))) htake)
    | exact wpAny_bind (wpAny_bind (m := Builtin.Tuple.tupleExact _) (wpAny_newObj_type (wpAny_pure (wpAny_pure ⟨_, rfl, wpAny_pure h⟩)) htake))
    | exact wpAny_bind (wpAny_bind (m := Builtin.Tuple.tupleExact _) (wpAny_newObj_type (wpAny_pure ⟨_, rfl, wpAny_pure h⟩) htake))
end
def rRevD (K : PySem.W.Frag) : V → Hp → VK → Prop := fun x H Q => (∃ a xs, x = .ref a ∧ SqL K H a xs ∧ ∀ p, H p = none → Q (.ref p) (upd H p (.lst xs.reverse))) ∨
  (∃ a xs, x = .ref a ∧ SqT K H a xs ∧ ∀ p, H p = none → Q (.ref p) (upd H p (.tup xs.reverse))) ∨ ∃ z : Str, x = .str z ∧ z.length ≤ sizeLine ∧ Q (.str ⟨z.cps.toList.reverse.toArray⟩) H
theorem pick_revS (z : Str) : ((Builtin.Str.strSliceIndices none none (-1) z.length).filterMap (z.cps[·]?)).toArray = z.cps.toList.reverse.toArray := by
  have e : Builtin.Str.strSliceIndices none none (-1) z.length = (List.range z.length).map fun k => z.length - 1 - k := by
    rw [← PySem.W.krv_sliceRange]
    rfl
  rw [e]
  have e1 := PySem.W.krv_range z.length
  have e2 := PySem.W.krv_all z.cps
  rw [e1, List.filterMap_reverse]
  show ((List.range z.cps.size).filterMap (z.cps[·]?)).reverse.toArray = _
  rw [e2]
/-- st: an expression that is -1 -/
theorem pe_revD {X : Cx} {e st : Expr} {te : TE} {tst : TO} {p3 pos : Pos} (he : PE X e te) (hst : PO X (some st) tst) (h1 : ∀ σ H (Q : Option Int → Hp → Prop), Q (some (-1)) H → tst σ H Q) :
    PE X (.Subscript e (.Slice none none (some st) p3) pos) (tUn (rRevD X.K) te) := by
  refine ⟨fun pins s σ H Q I h => ?_⟩
  refine Subscript_ (thn (he.run pins s σ H _ I h) fun v s1 ⟨x, H1, I1, r1, q1⟩ => ?_)
  refine wpAny_Slice (thn (po_none.run pins s1 σ H1 (fun o H2 => o = none ∧ H2 = H1) I1 ⟨rfl, rfl⟩) fun vl s2 ⟨l, H2, I2, pl, el, e2⟩ => ?_)
  subst el e2
  refine thn (po_none.run pins s2 σ H2 (fun o H3 => o = none ∧ H3 = H2) I2 ⟨rfl, rfl⟩) fun vu s3 ⟨u, H3, I3, pu, eu, e3⟩ => ?_
  subst eu e3
  refine thn (hst.run pins s3 σ H3 (fun o H4 => o = some (-1) ∧ H4 = H3) I3 (h1 _ _ _ ⟨rfl, rfl⟩)) fun vs s4 ⟨o, H4, I4, ps, eo, e4⟩ => ?_
  subst eo e4
  have I5 : Inv X pins σ H4 { s4 with heap := s4.heap.push { cls := .type "slice", data := .fields #[vl, vu, vs] } } := I4.kept (t' := s4.toks) fun b ob q => Heap.get?_push_of_some _ q
  have vl0 : vl = .none := by cases pl; rfl
  have vu0 : vu = .none := by cases pu; rfl
  subst vl0 vu0
  show wpAny (model X.prog X.w) X.A (subscriptTail e (.Slice none none (some st) p3) v (.ref s4.heap.objs.size)) (EP X pins σ Q) X.xe { s4 with heap := s4.heap.push { cls := .type "slice", data := .fields #[.none, .none, vs] } }
  rcases q1 with ⟨a, xs, ex, hx, q⟩ | ⟨a, xs, ex, hx, q⟩ | ⟨z, ex, hz, q⟩
  · subst ex
    cases r1
    obtain ⟨its, r, ht, hz⟩ := I5.list hx
    have hlen := r.length
    refine tail_any (ops := [.ref a, .ref s4.heap.objs.size]) ht.isList.typeIs (PySem.slot_list_getitem.lookup) ?_ (by with_unfolding_all rfl)
    refine wpAny_getItem_list_slice ht.isList (Heap.IsSliceOf.new _ .none .none vs) pl pu ps (by decide) ?_ (by rw [List.size_toArray]; omega)
    rw [PySem.W.krv_pick]
    refine ⟨.ref _, _, I5.laid (t' := s4.toks) (o := .lst xs.reverse) (fun b ob q => Heap.get?_push_of_some _ q) (Nat.le_refl _) ?_, rfl, q _ (I5.hok.fresh (Nat.le_refl _))⟩
    exact ⟨by rw [List.length_reverse]; exact hz, _, 0, r.reverse, Heap.get?_push_size _ rfl⟩
  · subst ex
    cases r1
    obtain ⟨its, r, ht, hz⟩ := I5.tuple hx
    have hlen := r.length
    refine tail_any (ops := [.ref a, .ref s4.heap.objs.size]) ht.typeIs (PyProof.Rows.slot_tuple_getitem.lookup) ?_ (by with_unfolding_all rfl)
    refine getItem_tuple_rev ht (Heap.IsSliceOf.new _ .none .none vs) ps ?_ (by rw [List.size_toArray]; omega)
    refine ⟨.ref _, _, I5.laid (t' := s4.toks) (o := .tup xs.reverse) (fun b ob q => Heap.get?_push_of_some _ q) (Nat.le_refl _) ?_, rfl, q _ (I5.hok.fresh (Nat.le_refl _))⟩
    exact ⟨by rw [List.length_reverse]; exact hz, its.reverse, r.reverse, _, Heap.get?_push_size _ rfl, rfl, 0, by simp⟩
  · subst ex
    obtain ⟨t, rfl⟩ := r1
    obtain ⟨st', rfl, e7⟩ := IsPart.raw ps
    refine tail_any (ops := [.str z t, .ref s4.heap.objs.size]) (typeIs_str _ _ _) (F.slot_str_getitem.lookup) ?_ (by with_unfolding_all rfl)
    refine wpAny_getItem_str_slice (l := none) (u := none) (st := st') ⟨_, Heap.get?_push_size _ rfl, rfl, rfl⟩ (by rw [e7] <;> rfl) ?_
    have e8 : sliceMade z t none none st' = .str ⟨((Builtin.Str.strSliceIndices none none (-1) z.length).filterMap (z.cps[·]?)).toArray⟩ := by
      unfold sliceMade slicePicked
      rw [e7] <;> rfl
    rw [e8, pick_revS]
    exact ⟨by show Array.size _ ≤ _; rw [List.size_toArray, List.length_reverse]; exact hz, .str _, _, I5.tok _, ⟨_, rfl⟩, q⟩
theorem ok_rev : OpOk K (r1n (rRevD K)) (opSem .rev) := by
  intro vs ds H Q d pk h hQ
  match ds, pk, h with
  | [x], pk, h =>
    obtain ⟨v, F, rfl, r1⟩ := pk.one
    have h : opRev x = some d := h
    refine ⟨v, rfl, ?_⟩
    unfold opRev at h
    split at h
    · split at h
      · rename_i c
        cases h
        obtain ⟨rfl, c1⟩ := r1.str_of
        refine .inr (.inr ⟨_, rfl, by rw [sOf_len]; exact le_line c, ?_⟩)
        rw [sOf_cps]
        exact fin_imm (r := True) hQ (.str _ (chrOk_sub c1 fun x z => List.mem_reverse.mp z))
      · cases h
    · cases h
      obtain ⟨a, xs, rfl, s1, q1⟩ := r1.tup_of
      exact .inr (.inl ⟨a, xs, rfl, s1, fun p hp => fin_tup hQ hp q1.reverse⟩)
    · cases h
      obtain ⟨a, xs, rfl, s1, q1⟩ := r1.flst_of
      exact .inl ⟨a, xs, rfl, s1.sql, fun p hp => fin_lst hQ hp q1.reverse⟩
    · cases h
      obtain ⟨a, xs, rfl, s1, q1, _⟩ := r1.lst_of
      exact .inl ⟨a, xs, rfl, SqL.of s1, fun p hp => fin_lst hQ hp q1.reverse⟩
    · cases h
/-! ### truth -/
theorem truth_ok {v : V} {x : D} {F : List Addr} {b : Bool} (r : Rep K H v x F) (h : truth x = some b) : TruV K v H b := by
  have ne0 : ∀ {vs : List V} {ps : List P}, PReps K H vs ps → vs.isEmpty = ps.isEmpty := fun {vs ps} r => by
    cases r <;> rfl
  have key : ∀ s : List Nat, (!s.isEmpty) = (((s.length : Nat) : Int) != 0) := fun s => by
    cases s with
    | nil => rfl
    | cons a b =>
      have h : ((((a :: b).length : Nat) : Int) != 0) = true := by
        rw [bne_iff_ne, List.length_cons]
        omega
      rw [h]
      rfl
  unfold truth at h
  split at h
  · cases h; obtain ⟨h, _⟩ := r.imm_of; cases h; rfl
  · cases h; obtain rfl := r.bl_of; rfl
  · cases h; obtain rfl := r.int_of; rfl
  · split at h
    · rename_i c
      cases h
      obtain ⟨rfl, c1⟩ := r.str_of
      refine ⟨by rw [sOf_len]; exact le_line c, ?_⟩
      rw [sOf_len]
      exact key _
    · cases h
  · cases h
    obtain ⟨a, xs, rfl, s1, q1⟩ := r.tup_of
    exact .inr (.inl ⟨xs, s1, by rw [ne0 q1]⟩)
  · cases h
    obtain ⟨a, xs, rfl, s1, q1⟩ := r.flst_of
    exact .inl ⟨xs, s1.sql, by rw [ne0 q1]⟩
  · cases h
    obtain ⟨a, xs, rfl, s1, q1, _⟩ := r.lst_of
    exact .inl ⟨xs, SqL.of s1, by rw [ne0 q1]⟩
/-! ### methods that change a list: by values -/
def mmName : MOp → Str × String
  | .append => ("append", "list.append")
  | .extend => ("extend", "list.extend")
  | .pop => ("pop", "list.pop")
  | .popAt => ("pop", "list.pop")
  | .remove => ("remove", "list.remove")
def rRemD (K : PySem.W.Frag) : V → List V → Hp → VK → Prop := fun x xs H Q => ∃ (a : Addr) (ys : List V) (y : V) (d : PyData) (ds : List PyData) (j : Nat), x = V.ref a ∧ xs = [y] ∧ H a = some (.lst ys) ∧ DpAll K H ys ds ∧ Dp K H y d ∧
  PyData.canLayAll0 ds = true ∧ d.canLay0 = true ∧ min (PyData.depthAll ds) d.depth ≤ 50 ∧ SeqAt.dataPlace ds d = some j ∧ Q .non (upd H a (.lst (ys.eraseIdx j)))
theorem mt_remD {X : Cx} (hu : X.A.units + 64 < cLine) : MtM X "list.remove" (rRemD X.K) := by
  intro pins s σ H x xs v us Q I rx rxs h
  obtain ⟨a, ys, y, d, ds, j, rfl, rfl, hH, hD, hy, hxs, sd, hm, hp, q⟩ := h
  cases rx
  obtain ⟨u, rfl, ru⟩ := rxs.one
  obtain ⟨bs, r1⟩ := Dp.reads I d y u hy ru
  obtain ⟨z, its, n, r, hl, e⟩ := I.lstM hH
  obtain ⟨as, h4⟩ := Dp.readsAll I ds _ its hD r
  refine SeqAt.remove_list_data (vs := its.toArray) (j := j) ⟨_, e, rfl, _, rfl⟩ (by simpa using h4) r1 (layAll_plain hxs) (lay_plain sd) (by omega) hp (by rw [List.size_toArray]; omega) ?_
  refine ⟨.non, _, I.lset (its' := its.eraseIdx j) (t' := s.toks) hH e ?_ (r.eraseIdx j) ?_, rfl, q⟩
  · show its.toArray.eraseIdxIfInBounds j = (its.eraseIdx j).toArray
    rw [List.eraseIdxIfInBounds_toArray]
  · have := len_erase ys j
    omega
def rMutD (K : PySem.W.Frag) : MOp → V → List V → Hp → VK → Prop
  | .append => rAppend
  | .extend => rExtend
  | .pop => rPop
  | .popAt => rPopAt
  | .remove => rRemD K
theorem mt_mutD {X : Cx} (hu : X.A.units + 64 < cLine) : ∀ m, MtM X (mmName m).2 (rMutD X.K m)
  | .append => mt_append
  | .extend => mt_extend
  | .pop => mt_pop
  | .popAt => mt_popAt
  | .remove => mt_remD hu
theorem idxOf_place (p : P) : ∀ {ps : List P} {j : Nat}, idxOf p ps = some j → SeqAt.dataPlace (toPys ps) (toPy p) = some j
  | [], _, h => by cases h
  | q :: ps, j, h => by
    unfold idxOf at h
    unfold SeqAt.dataPlace
    rw [toPys, List.findIdx?_cons, eqv_py]
    by_cases c : peq q p = true
    · rw [if_pos c] at h
      rw [if_pos c]
      exact h
    · rw [if_neg c] at h
      rw [if_neg c]
      cases e : idxOf p ps with
      | none => rw [e] at h; cases h
      | some i =>
        rw [e] at h
        have := idxOf_place p e
        unfold SeqAt.dataPlace at this
        rw [this]
        exact h
theorem ixP_seqIndex {n : Nat} {i : Int} {j : Nat} (h : ixP n i = some j) : seqIndex? i n = some j := (ixN_seq (by rw [← ixP_eq]; exact h)).1
/-- the change by values: a, the list's object; it holds vs, read as xs -/
theorem mut_ok {m : MOp} {a : Addr} {vs ws : List V} {xs ys : List P} {ds : List D} {p : P} {Q : VK} (h0 : H a = some (.lst vs)) (r0 : PReps K H vs xs) (pk : PkAll K H ws ds) (h : mutSem m xs ds = some (ys, p))
    (hQ : ∀ v vs', PReps K H vs' ys → PRep K H v p → Q v (upd H a (.lst vs'))) : rMutD K m (.ref a) ws H Q := by
  unfold mutSem at h
  split at h
  · split at h
    · rename_i c
      cases h
      obtain ⟨v, F, rfl, r⟩ := pk.one
      obtain ⟨r, _⟩ := r.imm_of
      exact ⟨a, vs, v, rfl, rfl, h0, by rw [r0.length]; exact lt_line c, hQ _ _ (r0.append (.cons r .nil)) .non⟩
    · cases h
  · split at h
    · rename_i c
      cases h
      obtain ⟨v, F, rfl, r⟩ := pk.one
      obtain ⟨b, us, rfl, s1, q1, _⟩ := r.lst_of
      exact ⟨a, b, vs, us, rfl, rfl, h0, s1, by rw [r0.length, q1.length]; exact le_line c, hQ _ _ (r0.append q1) .non⟩
    · cases h
  · cases e : xs[xs.length - 1]? with
    | none => rw [e] at h; cases h
    | some q =>
      rw [e] at h
      cases h
      cases pk
      obtain ⟨v, h1, h2⟩ := r0.get e
      exact ⟨a, vs, v, rfl, rfl, h0, by rw [r0.length]; exact h1, hQ _ _ r0.dropLast h2⟩
  · split at h
    · rename_i hz
      obtain ⟨j, h1, h2⟩ := bind_some h
      cases e : xs[j]? with
      | none => rw [e] at h2; cases h2
      | some q =>
        rw [e] at h2
        cases h2
        obtain ⟨v, F, rfl, r⟩ := pk.one
        obtain rfl := r.int_of
        obtain ⟨v, g1, g2⟩ := r0.get e
        obtain ⟨k1, k2, k3, k4⟩ := ixN_seq (by rw [← ixP_eq]; exact h1)
        rw [← r0.length] at k1 k3 k4 hz
        have hz : vs.length ≤ 16777216 := hz
        have e63 : (2 : Int) ^ 63 = 9223372036854775808 := by decide
        exact ⟨a, vs, _, j, v, rfl, rfl, h0, by rw [e63]; omega, by rw [e63]; omega, k1, g1, hQ _ _ (r0.eraseIdx j) g2⟩
    · cases h
  · split at h
    · rename_i c
      cases e : idxOf _ _ with
      | none => rw [e] at h; cases h
      | some j =>
        rw [e] at h
        cases h
        obtain ⟨v, F, rfl, r⟩ := pk.one
        obtain ⟨r, _⟩ := r.imm_of
        exact ⟨a, vs, v, toPy _, toPys _, j, rfl, rfl, h0, r0.dp, r.dp, r0.lay, r.lay, by rw [depth_py, depths_py]; exact c, idxOf_place _ e, hQ _ _ (r0.eraseIdx j) .non⟩
    · cases h
  · cases h
end
end Sw
set_option maxHeartbeats 1000000
/-! Sw, part 10: the checker: which text a core term stands for. -/
namespace Sw
open PySem PySem.Spec PyProof.Rows L2
structure Tab where
  N : List Str
  fns : List (Str × Nat)
  glos : List (Str × P)
def lookB (sc : Scope) (x : Str) (k : NameKind) : Bool := decide (sc.names.lookup x = some k)
def visB (N : List Str) (sc : Scope) (i : Nat) (x : Str) : Bool := decide (N[i]? = some x) && (lookB sc x .local || lookB sc x .cell || lookB sc x .free) && !(x == ("__debug__" : Str)) && !(x == ("__classdict__" : Str))
def glB (sc : Scope) (x : Str) : Bool := lookB sc x .globalImplicit && !(x == ("__debug__" : Str)) && !(x == ("__name__" : Str))
theorem look_of {sc : Scope} {x : Str} {k : NameKind} (h : lookB sc x k = true) : sc.names.lookup x = some k := of_decide_eq_true h
theorem vis_of {N : List Str} {sc : Scope} {i : Nat} {x : Str} (h : visB N sc i x = true) : N[i]? = some x ∧ Vis sc x ∧ (x == ("__debug__" : Str)) = false ∧ (x == ("__classdict__" : Str)) = false := by
  unfold visB at h
  simp only [Bool.and_eq_true, Bool.or_eq_true, Bool.not_eq_true'] at h
  obtain ⟨⟨⟨h1, h2⟩, h3⟩, h4⟩ := h
  refine ⟨of_decide_eq_true h1, ?_, h3, h4⟩
  rcases h2 with (h | h) | h
  · exact .inl (look_of h)
  · exact .inr (.inl (look_of h))
  · exact .inr (.inr (look_of h))
theorem gl_of {sc : Scope} {x : Str} (h : glB sc x = true) : sc.names.lookup x = some .globalImplicit ∧ (x == ("__debug__" : Str)) = false ∧ x ≠ "__name__" := by
  unfold glB at h
  simp only [Bool.and_eq_true, Bool.not_eq_true'] at h
  exact ⟨look_of h.1.1, h.1.2, fun e => by rw [e] at h; simp at h⟩
def notStar : Expr → Bool
  | .Starred .. => false
  | _ => true
theorem star_of {e : Expr} (h : notStar e = true) (es : List Expr) (env : PySem.Env) : starEach (e :: es) env = (false, eval e env) :: starEach es env := by
  cases e <;> first | rfl | cases h
theorem stars_of {env : PySem.Env} {pos : Pos} : ∀ {es : List Expr}, es.all notStar = true → (backTo pos (starEach es env)).any (·.1) = false
  | [], _ => rfl
  | e :: es, h => by
    rw [List.all_cons, Bool.and_eq_true] at h
    rw [star_of h.1]
    show (false || (backTo pos (starEach es env)).any (·.1)) = false
    rw [stars_of h.2] <;> rfl
theorem stars_all {env : PySem.Env} {pos : Pos} : ∀ {es : List Expr}, es.all notStar = true → (backTo pos (starEach es env)).all (fun x => !x.1) = true
  | [], _ => rfl
  | e :: es, h => by
    rw [List.all_cons, Bool.and_eq_true] at h
    rw [star_of h.1]
    show (true && (backTo pos (starEach es env)).all (fun x => !x.1)) = true
    rw [stars_all h.2] <;> rfl
def notSlice : Expr → Bool
  | .Slice .. => false
  | _ => true
theorem plainIx_of {b : Expr} (h : notSlice b = true) : PlainIx b := fun o i => by
  cases b <;> first | rfl | cases h
def notSet : Expr → Bool
  | .Set .. => false
  | _ => true
theorem notSet_of {e : Expr} (h : notSet e = true) (env : PySem.Env) (x : Value) : foldedSetIterable e env x = pure x := by
  cases e <;> first | rfl | cases h
theorem notSet_mark {op : CmpOp} {e : Expr} (h : notSet e = true) : behindInMarks op e = false := by
  cases e <;> first | rfl | cases h
def plainTest : Expr → Bool
  | .UnaryOp .. => false
  | .BoolOp .. => false
  | .IfExp .. => false
  | .Compare .. => false
  | _ => true
theorem plainTest_of {e : Expr} (h : plainTest e = true) (env : PySem.Env) (whole : Sem Value) : isTrue e env whole = (do let v ← whole; standAt e.pos; holding [v] (truthy v)) := by
  cases e <;> first | rfl | cases h
def baseOk : Expr → Bool
  | .Call _ [] _ _ => false
  | _ => true
theorem base_of {o : Expr} (h : baseOk o = true) (attr : Str) (env : PySem.Env) (whole : Sem Value) : attributeBase o attr env whole = whole := by
  unfold attributeBase
  split
  · cases h
  · rfl
def constB (p : P) (c : Const) : Bool := match p, c with
  | .non, .none => true
  | .bl a, .bool b => a == b
  | .int a, .int b => a == b
  | .str a, .str b => decide (b = sOf a) && chrOk a
  | _, _ => false
/-- the built-ins by name -/
def bltOf : Op → Option (Str × Value × Nat)
  | .len => some ("len", .builtin "len", 1)
  | .list => some ("list", .type "list", 1)
  | .tuple => some ("tuple", .type "tuple", 1)
  | .min2 => some ("min", .builtin "min", 2)
  | .max2 => some ("max", .builtin "max", 2)
  | .int => some ("int", .type "int", 1)
  | .abs => some ("abs", .builtin "abs", 1)
  | .sum => some ("sum", .builtin "sum", 1)
  | .all => some ("all", .builtin "all", 1)
  | .any => some ("any", .builtin "any", 1)
  | .sorted => some ("sorted", .builtin "sorted", 1)
  | .minL => some ("min", .builtin "min", 1)
  | .maxL => some ("max", .builtin "max", 1)
  | .repr => some ("repr", .builtin "repr", 1)
  | _ => none
def bltNames : List Str := ["len", "list", "tuple", "min", "max", "int", "abs", "sum", "all", "any", "isinstance", "bool", "str", "range", "enumerate", "zip", "sorted", "repr"]
def binOf : Op → Option Operator
  | .add => some .Add
  | .sub => some .Sub
  | .mul => some .Mult
  | .fdiv => some .FloorDiv
  | .mod => some .Mod
  | .pow => some .Pow
  | .xor => some .BitXor
  | _ => none
def cmpOf : Op → Option CmpOp
  | .eq => some .Eq
  | .ne => some .NotEq
  | .lt => some .Lt
  | .le => some .LtE
  | .gt => some .Gt
  | .ge => some .GtE
  | .isin => some .In
  | .notin => some .NotIn
  | .isB => some .Is
  | .notB => some .IsNot
  | _ => none
def mthOf : Op → Option (Str × Nat)
  | .join => some ("join", 1)
  | .index => some ("index", 1)
  | .swapcase => some ("swapcase", 0)
  | .lower => some ("lower", 0)
  | .upper => some ("upper", 0)
  | _ => none
def tyNm (sc : Scope) (t : Ty) : Expr → Bool
  | .Name x _ => decide (x = (tyName t : Str)) && glB sc x
  | _ => false
def tyNms (sc : Scope) : List Ty → List Expr → Bool
  | [], [] => true
  | t :: ts, e :: es => tyNm sc t e && tyNms sc ts es
  | _, _ => false
/-- [::-1], [::0 - 1] -/
def isNeg1 : Expr → Bool
  | .UnaryOp .USub (.Constant (.int 1) _ _) _ => true
  | .BinOp (.Constant (.int 0) _ _) .Sub (.Constant (.int 1) _ _) _ => true
  | _ => false
def isNoneC : Expr → Bool
  | .Constant .none _ _ => true
  | _ => false
def isTup : Expr → Bool
  | .Tuple .. => true
  | _ => false
theorem isTup_of {e : Expr} (h : isTup e = true) : ∃ xs j pos, e = .Tuple xs j pos := by
  cases e <;> first | (cases h; done) | exact ⟨_, _, _, rfl⟩
def chkC (sc : Scope) (y : Str) (n : Nat) (ck : List Expr → Bool) (x : Expr) : Bool := match x with
  | .Call f args kws _ => (match f, kws with
    | .Name z _, [] => glB sc z && ck args && decide (z = y) && decide (args.length = n)
    | _, _ => false)
  | _ => false
theorem chkC_of {sc : Scope} {y : Str} {n : Nat} {ck : List Expr → Bool} {x : Expr} (h : chkC sc y n ck x = true) : ∃ p args pos, x = .Call (.Name y p) args [] pos ∧ glB sc y = true ∧ ck args = true ∧ args.length = n := by
  unfold chkC at h
  split at h
  · split at h
    · simp only [Bool.and_eq_true] at h
      obtain ⟨⟨⟨h1, h2⟩, h3⟩, h4⟩ := h
      obtain rfl := of_decide_eq_true h3
      exact ⟨_, _, _, rfl, h1, h2, of_decide_eq_true h4⟩
    · cases h
  · cases h
/-- the text of what is walked -/
def chkI (sc : Scope) (isT : Bool) (k : IK) (ck : List Expr → Bool) (x : Expr) : Bool := match k with
  | .seq => notSet x && ck [x]
  | .rng1 => chkC sc "range" 1 ck x
  | .rng2 => chkC sc "range" 2 ck x
  | .rng3 => chkC sc "range" 3 ck x
  | .enum => isT && chkC sc "enumerate" 1 ck x
  | .zip => isT && chkC sc "zip" 2 ck x
theorem chkC_set {sc : Scope} {y : Str} {n : Nat} {ck : List Expr → Bool} {x : Expr} (h : chkC sc y n ck x = true) : notSet x = true := by
  obtain ⟨p, args, pos, rfl, _⟩ := chkC_of h
  rfl
theorem chkI_set {sc : Scope} {isT : Bool} {k : IK} {ck : List Expr → Bool} {x : Expr} (h : chkI sc isT k ck x = true) : notSet x = true := by
  unfold chkI at h
  split at h
  · rw [Bool.and_eq_true] at h; exact h.1
  · exact chkC_set h
  · exact chkC_set h
  · exact chkC_set h
  · rw [Bool.and_eq_true] at h; exact chkC_set h.2
  · rw [Bool.and_eq_true] at h; exact chkC_set h.2
/-! ### targets -/
mutual
def chkP (N : List Str) (st : Str → Bool) : Pat → Expr → Bool
  | .nm i, e => (match e with
    | .Name x _ => decide (N[i]? = some x) && st x
    | _ => false)
  | .tp ts, e => (match e with
    | .Tuple xs _ _ => chkPs N st ts xs
    | _ => false)
def chkPs (N : List Str) (st : Str → Bool) : List Pat → List Expr → Bool
  | [], xs => xs.isEmpty
  | t :: ts, xs => (match xs with
    | x :: xs => notStar x && chkP N st t x && chkPs N st ts xs
    | _ => false)
end
def stB (sc : Scope) (x : Str) : Bool := lookB sc x .local || lookB sc x .cell
def ownN (N : List Str) (own : List Nat) : List (Str × Nat) := own.map fun i => (N.getD i ("" : Str), i)
mutual
/-- what may stand as a test -/
def tstB : E → Bool
  | .op .neg _ => false
  | .ife .. => false
  | .frz _ => false
  | .and es => tstBs es
  | .or es => tstBs es
  | _ => true
def tstBs : List E → Bool
  | [] => true
  | e :: es => tstB e && tstBs es
end
mutual
def chkE (T : Tab) (sc : Scope) : E → Expr → Bool
  | .nm i, e => (match e with
    | .Name x _ => visB T.N sc i x
    | _ => false)
  | .cst p, e => (match e with
    | .Constant c _ _ => constB p c
    | _ => false)
  | .glo j, e => (match e with
    | .Name x _ => glB sc x && decide ((T.glos[j]?).map (·.1) = some x)
    | _ => false)
  | .mv i, e => (match e with
    | .Name x _ => visB T.N sc i x
    | _ => false)
  | .tup es, e => (match e with
    | .Tuple xs _ _ => chkEs T sc es xs
    | _ => false)
  | .lst es, e => (match e with
    | .List xs _ => chkEs T sc es xs
    | _ => false)
  | .op o es, e => (match e with
    | .BinOp a op b _ => decide (binOf o = some op) && chkEs T sc es [a, b]
    | .UnaryOp op a _ => decide (op = .USub) && decide (o = .neg) && chkEs T sc es [a]
    | .Compare a ops bs _ => (match ops, bs with
      | [op], [b] => (decide (cmpOf o = some op) && notSet b && chkEs T sc es [a, b]) || (isNoneC b && (decide (o = .isN) && decide (op = .Is) || decide (o = .notN) && decide (op = .IsNot)) && chkEs T sc es [a])
      | _, _ => false)
    | .Subscript a b _ => (match b with
      | .Slice lo hi st _ => (match lo, hi, st with
        | none, none, some s => isNeg1 s && decide (o = .rev) && chkEs T sc es [a]
        | _, _, _ => false)
      | b => decide (o = .idx) && notSlice b && chkEs T sc es [a, b])
    | .Call f args kws _ => (match f, kws with
      | .Name x _, [] => (match o with
        | .isi ts => decide (x = ("isinstance" : Str)) && glB sc x && (match args with
          | [a, b] => notStar a && notStar b && chkEs T sc es [a] && (match b with
            | .Tuple bs _ _ => decide (ts.length ≤ 10) && tyNms sc ts bs
            | b => (match ts with
              | [t] => tyNm sc t b
              | _ => false))
          | _ => false)
        | o => (match bltOf o with
          | some (y, _, n) => decide (x = y) && glB sc x && decide (args.length = n) && chkEs T sc es args
          | none => false))
      | _, _ => false)
    | _ => false)
  | .mth o a es, e => (match e with
    | .Call f args kws cpos => (match f, kws with
      | .Attribute ob name apos, [] => (match mthOf o with
        | some (y, n) => decide (name = y) && decide (args.length = n) && baseOk ob && (apos.endLine == cpos.line) && notStar ob && chkE T sc a ob && chkEs T sc es args
        | none => false)
      | _, _ => false)
    | _ => false)
  | .chain o1 o2 a b c, e => (match e with
    | .Compare x ops ys _ => (match ops, ys with
      | [p, q], [y, z] => decide (cmpOf o1 = some p) && decide (cmpOf o2 = some q) && notSet y && notSet z && notStar x && notStar y && notStar z && chkE T sc a x && chkE T sc b y && chkE T sc c z
      | _, _ => false)
    | _ => false)
  | .and es, e => (match e with
    | .BoolOp op xs _ => decide (op = .And) && !xs.isEmpty && chkEs T sc es xs
    | _ => false)
  | .or es, e => (match e with
    | .BoolOp op xs _ => decide (op = .Or) && !xs.isEmpty && chkEs T sc es xs
    | _ => false)
  | .not a, e => (match e with
    | .UnaryOp op x _ => decide (op = .Not) && chkE T sc a x && tstB a
    | _ => false)
  | .ife t a b, e => (match e with
    | .IfExp x y z _ => chkE T sc t x && tstB t && chkE T sc a y && chkE T sc b z
    | _ => false)
  | .slc a lo hi, e => (match e with
    | .Subscript x s _ => (match s with
      | .Slice l h st _ => (match st with
        | none => chkE T sc a x && chkO T sc lo l && chkO T sc hi h
        | _ => false)
      | _ => false)
    | _ => false)
  | .mut m i es, e => (match e with
    | .Call f args kws cpos => (match f, kws with
      | .Attribute ob name apos, [] => (match ob with
        | .Name x _ => visB T.N sc i x && decide (name = (mmName m).1) && (apos.endLine == cpos.line) && decide (args.length < 20) && chkEs T sc es args
        | _ => false)
      | _, _ => false)
    | _ => false)
  | .call f es, e => (match e with
    | .Call g args kws _ => (match g, kws with
      | .Name x _, [] => glB sc x && decide (T.fns[f]? = some (x, args.length)) && chkEs T sc es args
      | _, _ => false)
    | _ => false)
  | .cmp own t k as tests elt, e => (match e with
    | .ListComp x gens scope _ => (match gens with
      | [⟨tg, iter, ifs, asy⟩] => decide (asy = 0) && chkI sc (isTup tg) k (fun xs => chkEs T sc as xs) iter && blkC T.N sc scope (ownN T.N own) && chkP T.N (stB scope) t tg && (asgP t).all (fun i => own.contains i) &&
          decide own.Nodup && tstBs tests && decide (tests.length ≤ 1) && chkEs T (relS scope sc) tests ifs && chkE T (relS scope sc) elt x
      | _ => false)
    | _ => false)
  | .cmp2 own own2 t k as tests t2 k2 as2 tests2 elt, e => false
  | .frz a, e => chkE T sc a e
def chkEs (T : Tab) (sc : Scope) : List E → List Expr → Bool
  | [], xs => (match xs with
    | [] => true
    | _ => false)
  | a :: as, xs => (match xs with
    | x :: xs => notStar x && chkE T sc a x && chkEs T sc as xs
    | _ => false)
def chkO (T : Tab) (sc : Scope) : Option E → Option Expr → Bool
  | none, x => x.isNone
  | some a, x => (match x with
    | some y => chkE T sc a y
    | none => false)
end
end Sw
set_option maxHeartbeats 1000000
/-! Sw, part 11: soundness, the nodes. -/
namespace Sw
open PySem PySem.Spec PyProof.Rows L2
/-- a def's promise by the evaluator's function -/
def spD (K : PySem.W.Frag) (φ : List D → Option (D × List D)) : Sp := fun vs H Q _ => ∃ ds Fs d rs, Reps K H vs ds Fs ∧ Fs.Nodup ∧ φ ds = some (d, rs) ∧
  ∀ v H' Fd Fr, Rep K H' v d Fd → Reps K H' vs rs Fr → (Fd ++ Fr).Nodup → Stp H Fs H' (Fd ++ Fr) → Q v H'
structure Good (T : Tab) (Φ : CallS) (k : Nat) (sc : Scope) (X : Cx) : Prop where
  N : X.N = T.N
  nd : T.N.Nodup
  calm : X.calm = true
  room : Room k X.A
  scope : X.env.scope = sc
  glos : ∀ (j : Nat) (x : Str) (p : P), T.glos[j]? = some (x, p) → ∃ (u : Value) (v : V), X.mg x = some u ∧ RelV v u ∧ ∀ H, PRep X.K H v p
  fns : ∀ (j : Nat) (x : Str) (n : Nat), T.fns[j]? = some (x, n) → ∃ (f : Addr) (fd : FuncData) (ps : List Str), X.mg x = some (.ref f) ∧ PySem.W.keepIn X.K (.ref f) = true ∧ Binds X.K fd ps [] ∧ ps.length = n ∧
    FnOk X.prog X.w X.K X.mg X.base CX0 k f fd ps (spD X.K (Φ j))
  blt : ∀ x ∈ bltNames, X.mg x = none
def Tab.G (T : Tab) : List P := T.glos.map (·.2)
section
variable {T : Tab} {Φ : CallS} {k : Nat} {sc : Scope} {X : Cx}
theorem Good.hu (g : Good T Φ k sc X) : X.A.units + 64 < cLine := g.room.units
theorem Good.gl (g : Good T Φ k sc X) {x : Str} (h : sc.names.lookup x = some .globalImplicit) : Gl X x := by
  unfold Gl Env.kindOf
  rw [g.scope]
  exact h
end
section
variable {K : PySem.W.Frag} {σ : L2.St} {H : Hp} {Q : VK} {e e1 e2 : En} {F : List Addr}
/-- a tO of what is known -/
theorem tO_mk {f : M Opd} {o : Opd} (he : EnvRep K H σ e F) (n : F.Nodup) (hf : f e = some (o, e1)) (h : ∀ v H1 Fd F1, ORep K H1 σ v o Fd → EnvRep K H1 σ e1 F1 → (Fd ++ F1).Nodup → Stp H F H1 (Fd ++ F1) → Q v H1) : tO K f σ H Q := ⟨e, F, o, e1, he, n, hf, h⟩
theorem ORep.frame {H1 H2 : Hp} {v : V} {o : Opd} {Fd F1 G : List Addr} (r : ORep K H1 σ v o Fd) (he : EnvRep K H1 σ e1 F1) (n : (Fd ++ F1).Nodup) (s : Stp H1 F1 H2 G) : ORep K H2 σ v o Fd := by
  obtain ⟨h1, h2⟩ := stp_keep s he.mut r.mut n
  exact r.mono h1 h2
theorem ORs.frame {H1 H2 : Hp} {v : List V} {o : List Opd} {Fd F1 G : List Addr} (r : ORs K H1 σ v o Fd) (he : EnvRep K H1 σ e1 F1) (n : (Fd ++ F1).Nodup) (s : Stp H1 F1 H2 G) : ORs K H2 σ v o Fd := by
  obtain ⟨h1, h2⟩ := stp_keep s he.mut r.mut n
  exact r.mono h1 h2
/-- two values in a row -/
theorem two_ops {fa fb : M Opd} {x y : Opd} {R : V → V → Hp → Prop} (he : EnvRep K H σ e F) (n : F.Nodup) (hx : fa e = some (x, e1)) (hy : fb e1 = some (y, e2))
    (C : ∀ vx vy H2 Fs F2, ORs K H2 σ [vx, vy] [x, y] Fs → EnvRep K H2 σ e2 F2 → (Fs ++ F2).Nodup → Stp H F H2 (Fs ++ F2) → R vx vy H2) : tO K fa σ H fun vx H1 => tO K fb σ H1 fun vy H2 => R vx vy H2 := by
  refine tO_mk he n hx fun vx H1 Fx F1 ox he1 n1 s1 => tO_mk he1 (nd_right n1) hy fun vy H2 Fy F2 oy he2 n2 s2 => ?_
  obtain ⟨s3, n3⟩ := stp_two s1 n1 ox.mut s2 n2
  have ox2 := ox.frame he1 n1 s2
  refine C vx vy H2 (Fx ++ (Fy ++ [])) F2 (.cons ox2 (.cons oy .nil)) he2 ?_ ?_
  · rw [List.append_nil, List.append_assoc]; exact n3
  · rw [List.append_nil, List.append_assoc]; exact s3
theorem evos_one {Φ : CallS} {G : List P} {a : E} {os : List Opd} (h : evos Φ G [a] e = some (os, e1)) : ∃ x, evo Φ G a e = some (x, e1) ∧ os = [x] := by
  simp only [evos] at h
  obtain ⟨⟨x, f1⟩, h1, h2⟩ := bind_some h
  simp only [Option.bind_some] at h2
  cases h2
  exact ⟨x, h1, rfl⟩
theorem evos_cons {Φ : CallS} {G : List P} {a : E} {as : List E} {os : List Opd} (h : evos Φ G (a :: as) e = some (os, e2)) : ∃ x xs e1, evo Φ G a e = some (x, e1) ∧ evos Φ G as e1 = some (xs, e2) ∧ os = x :: xs := by
  simp only [evos] at h
  obtain ⟨⟨x, f1⟩, h1, h2⟩ := bind_some h
  obtain ⟨⟨xs, f2⟩, h3, h4⟩ := bind_some h2
  cases h4
  exact ⟨x, xs, f1, h1, h3, rfl⟩
theorem evos_two {Φ : CallS} {G : List P} {a b : E} {os : List Opd} (h : evos Φ G [a, b] e = some (os, e2)) : ∃ x y e1, evo Φ G a e = some (x, e1) ∧ evo Φ G b e1 = some (y, e2) ∧ os = [x, y] := by
  obtain ⟨x, xs, f, h1, h2, rfl⟩ := evos_cons h
  obtain ⟨y, h3, rfl⟩ := evos_one h2
  exact ⟨x, y, f, h1, h3, rfl⟩
theorem evo_op {Φ : CallS} {G : List P} {o : Op} {es : List E} {r : Opd} (h : evo Φ G (.op o es) e = some (r, e1)) : ∃ os ds d, evos Φ G es e = some (os, e1) ∧ resvs e1 os = some ds ∧ opSem o ds = some d ∧ r = .tmp d := by
  simp only [evo] at h
  obtain ⟨⟨os, f⟩, h1, h2⟩ := bind_some h
  obtain ⟨ds, h3, h4⟩ := bind_some h2
  obtain ⟨d, h5, h6⟩ := bind_some h4
  cases h6
  exact ⟨os, ds, d, h1, h3, h5, rfl⟩
/-- an operator of two, by its values' rule -/
theorem tOp_of {Φ : CallS} {G : List P} {o : Op} {a b : E} {r : R2} (ok : OpOk K (r2n r) (opSem o)) (h : tO K (evo Φ G (.op o [a, b])) σ H Q) : tOp r (tO K (evo Φ G a)) (tO K (evo Φ G b)) σ H Q := by
  obtain ⟨e, F, z, e', he, n, hf, hQ⟩ := h
  obtain ⟨os, ds, d, h1, h2, h3, rfl⟩ := evo_op hf
  obtain ⟨x, y, e1, h4, h5, rfl⟩ := evos_two h1
  refine two_ops he n h4 h5 fun vx vy H2 Fs F2 rs he2 n2 s2 => ?_
  obtain ⟨v, u, e, q⟩ := ops_end ok rs he2 n2 s2 h2 h3 hQ
  cases e
  exact q
theorem tUn_of {Φ : CallS} {G : List P} {o : Op} {a : E} {r : V → Hp → VK → Prop} (ok : OpOk K (r1n r) (opSem o)) (h : tO K (evo Φ G (.op o [a])) σ H Q) : tUn r (tO K (evo Φ G a)) σ H Q := by
  obtain ⟨e, F, z, e', he, n, hf, hQ⟩ := h
  obtain ⟨os, ds, d, h1, h2, h3, rfl⟩ := evo_op hf
  obtain ⟨x, h4, rfl⟩ := evos_one h1
  refine tO_mk he n h4 fun vx H1 Fx F1 ox he1 n1 s1 => ?_
  have ox' : ORs K H1 σ [vx] [x] (Fx ++ []) := .cons ox .nil
  obtain ⟨v, e, q⟩ := ops_end ok ox' he1 (by rw [List.append_nil]; exact n1) (by rw [List.append_nil]; exact s1) h2 h3 hQ
  cases e
  exact q
/-- a built-in called -/
theorem tCB_of {Φ : CallS} {G : List P} {o : Op} {es : List E} {r : List V → Hp → VK → Prop} (ok : OpOk K r (opSem o)) (h : tO K (evo Φ G (.op o es)) σ H Q) : tCB r (tOs K (evos Φ G es)) σ H Q := by
  obtain ⟨e, F, z, e', he, n, hf, hQ⟩ := h
  obtain ⟨os, ds, d, h1, h2, h3, rfl⟩ := evo_op hf
  exact ⟨e, F, os, e', he, n, h1, fun vs H2 Fs F2 rs he2 n2 s2 => ops_end ok rs he2 n2 s2 h2 h3 hQ⟩
end
section
variable {T : Tab} {Φ : CallS} {k : Nat} {sc : Scope} {X : Cx}
theorem snd_nil : PA X [] (tOs X.K (evos Φ T.G [])) := PA.weak pa_nil fun σ H Q h => by
  obtain ⟨e, F, o, e', he, n, hf, hQ⟩ := h
  simp only [evos, Option.some.injEq, Prod.mk.injEq] at hf
  obtain ⟨rfl, rfl⟩ := hf
  exact hQ [] H [] F .nil he n (Stp.refl H F)
theorem snd_cons {a : E} {as : List E} {x : Expr} {xs : List Expr} (ha : PE X x (tO X.K (evo Φ T.G a))) (hs : PA X xs (tOs X.K (evos Φ T.G as))) (ns : notStar x = true) : PA X (x :: xs) (tOs X.K (evos Φ T.G (a :: as))) :=
  PA.weak (pa_cons ha hs (star_of ns _ _)) fun σ H Q h => by
    obtain ⟨e, F, o, e', he, n, hf, hQ⟩ := h
    obtain ⟨y, ys, e1, h1, h2, rfl⟩ := evos_cons hf
    refine tO_mk he n h1 fun vx H1 Fx F1 ox he1 n1 s1 => ⟨e1, F1, ys, e', he1, nd_right n1, h2, fun vs H2 Fs F2 rs he2 n2 s2 => ?_⟩
    obtain ⟨s3, n3⟩ := stp_two s1 n1 ox.mut s2 n2
    refine hQ (vx :: vs) H2 (Fx ++ Fs) F2 (.cons (ox.frame he1 n1 s2) rs) he2 ?_ ?_
    · rw [List.append_assoc]; exact n3
    · rw [List.append_assoc]; exact s3
/-- tuple, list display -/
theorem snd_tup {es : List E} {xs : List Expr} {j : Nat} {pos : Pos} (h : PA X xs (tOs X.K (evos Φ T.G es))) : PE X (.Tuple xs j pos) (tO X.K (evo Φ T.G (.tup es))) :=
  PE.weak (pe_tup h) fun σ H Q h => by
    obtain ⟨e, F, o, e', he, n, hf, hQ⟩ := h
    simp only [evo] at hf
    obtain ⟨⟨os, e1⟩, h1, h2⟩ := bind_some hf
    obtain ⟨ps, h3, h4⟩ := bind_some h2
    split at h4
    · rename_i hl
      cases h4
      refine ⟨e, F, os, _, he, n, h1, fun vs H2 Fs F2 rs he2 n2 s2 => ?_⟩
      obtain ⟨q1, rfl⟩ := immOs_ok rs h3
      refine ⟨by rw [q1.length]; exact le_line hl, fun p hp => ?_⟩
      obtain ⟨s3, n3⟩ := stp_new (F3 := []) s2 n2 he2.mut (same_new hp) (fun a z => nomatch z) List.nodup_nil
      exact hQ _ _ [] F2 (Rep.imm (.tup (SqT.of upd_same) (q1.keep (Keeps.of_same (same_new hp))))) (he2.same (same_new hp)) n3 s3
    · cases h4
theorem snd_lst {es : List E} {xs : List Expr} {pos : Pos} (h : PA X xs (tOs X.K (evos Φ T.G es))) : PE X (.List xs pos) (tO X.K (evo Φ T.G (.lst es))) :=
  PE.weak (pe_lst h) fun σ H Q h => by
    obtain ⟨e, F, o, e', he, n, hf, hQ⟩ := h
    simp only [evo] at hf
    obtain ⟨⟨os, e1⟩, h1, h2⟩ := bind_some hf
    obtain ⟨ps, h3, h4⟩ := bind_some h2
    split at h4
    · rename_i hl
      cases h4
      refine ⟨e, F, os, _, he, n, h1, fun vs H2 Fs F2 rs he2 n2 s2 => ?_⟩
      obtain ⟨q1, rfl⟩ := immOs_ok rs h3
      refine ⟨by rw [q1.length]; exact le_line hl, fun p hp => ?_⟩
      obtain ⟨s3, n3⟩ := stp_new (F3 := [p]) s2 n2 he2.mut (same_new hp) (fun a z => by rw [List.mem_singleton.mp z]; exact hp) (by simp)
      exact hQ _ _ [p] F2 (Rep.lst upd_same (q1.keep (Keeps.of_same (same_new hp)))) (he2.same (same_new hp)) n3 s3
    · cases h4
/-- a name -/
theorem snd_nm {i : Nat} {x : Str} {pos : Pos} (g : Good T Φ k sc X) (h : visB T.N sc i x = true) : PE X (.Name x pos) (tO X.K (evo Φ T.G (.nm i))) := by
  obtain ⟨h1, h2, h3, h4⟩ := vis_of h
  refine PE.weak (pe_var (i := i) (by rw [g.N]; exact h1) (by rw [g.scope]; exact h2) h3 h4) fun σ H Q h => ?_
  obtain ⟨e, F, o, e', he, n, hf, hQ⟩ := h
  simp only [evo] at hf
  obtain ⟨o', h5, h6⟩ := bind_some hf
  cases h6
  unfold nmSem at h5
  split at h5
  · rename_i p hp
    cases h5
    obtain ⟨v, Fi, g1, g2, _⟩ := he.get hp
    obtain ⟨q, _⟩ := g2.imm_of
    exact ⟨v, g1, hQ v H [] F (Rep.imm q) he n (Stp.refl H F)⟩
  · rename_i ps hp
    cases h5
    obtain ⟨v, Fi, g1, g2, _⟩ := he.get hp
    exact ⟨v, g1, hQ v H [] F ⟨g1, rfl⟩ he n (Stp.refl H F)⟩
  · cases h5
theorem snd_mv {i : Nat} {x : Str} {pos : Pos} (g : Good T Φ k sc X) (h : visB T.N sc i x = true) : PE X (.Name x pos) (tO X.K (evo Φ T.G (.mv i))) := by
  obtain ⟨h1, h2, h3, h4⟩ := vis_of h
  refine PE.weak (pe_var (i := i) (by rw [g.N]; exact h1) (by rw [g.scope]; exact h2) h3 h4) fun σ H Q h => ?_
  obtain ⟨e, F, o, e', he, n, hf, hQ⟩ := h
  simp only [evo] at hf
  unfold mvSem at hf
  split at hf
  · rename_i p hp
    cases hf
    obtain ⟨v, Fi, g1, g2, _⟩ := he.get hp
    obtain ⟨q, _⟩ := g2.imm_of
    exact ⟨v, g1, hQ v H [] F (Rep.imm q) he n (Stp.refl H F)⟩
  · rename_i ps hp
    cases hf
    obtain ⟨v, Fi, F', g1, g2, g3, g4, g5⟩ := he.out hp
    exact ⟨v, g1, hQ v H Fi F' g2 g3 (g5 n) ((Stp.refl H F).less (fun a z => z) fun a z => g4 a z)⟩
  · cases hf
/-- a constant -/
theorem tC_of {K : PySem.W.Frag} {f : M Opd} {v : V} {p : P} (hp : ∀ H, PRep K H v p) (hf : ∀ e, f e = some (.tmp (.imm p), e)) (σ : L2.St) (H : Hp) (Q : VK) (h : tO K f σ H Q) : tC v σ H Q := by
  obtain ⟨e, F, o, e', he, n, hf', hQ⟩ := h
  rw [hf e] at hf'
  cases hf'
  exact hQ v H [] F (Rep.imm (hp H)) he n (Stp.refl H F)
theorem snd_cst {p : P} {c : Const} {j : Nat} {pos : Pos} (h : constB p c = true) : PE X (.Constant c j pos) (tO X.K (evo Φ T.G (.cst p))) := by
  have hf : ∀ e, evo Φ T.G (.cst p) e = some (.tmp (.imm p), e) := fun e => by simp only [evo]
  cases p <;> cases c <;> first | (cases h; done) | skip
  · exact PE.weak pe_non (tC_of (fun H => .non) hf)
  · obtain rfl := eq_of_beq (show (_ == _) = true from h)
    exact PE.weak pe_bl (tC_of (fun H => .bl _) hf)
  · obtain rfl := eq_of_beq (show (_ == _) = true from h)
    exact PE.weak pe_int (tC_of (fun H => .int _) hf)
  · have h : (decide (_ = sOf _) && chrOk _) = true := h
    rw [Bool.and_eq_true] at h
    obtain rfl := of_decide_eq_true h.1
    exact PE.weak pe_str (tC_of (fun H => .str _ h.2) hf)
theorem snd_glo {j : Nat} {x : Str} {pos : Pos} (g : Good T Φ k sc X) (h : glB sc x = true) (h2 : (T.glos[j]?).map (·.1) = some x) : PE X (.Name x pos) (tO X.K (evo Φ T.G (.glo j))) := by
  cases q : T.glos[j]? with
  | none => rw [q] at h2; cases h2
  | some z =>
    obtain ⟨y, p⟩ := z
    rw [q] at h2
    cases h2
    obtain ⟨u, v, m, r, hp⟩ := g.glos j _ p q
    obtain ⟨g1, g2, g3⟩ := gl_of h
    refine PE.weak (pe_glob (g.gl g1) m r g2) (tC_of hp fun e => ?_)
    simp only [evo, Tab.G, List.getElem?_map, q]
    rfl
end
end Sw
set_option maxHeartbeats 1000000
/-! Sw, part 12: soundness, operators and calls. -/
namespace Sw
open PySem PySem.Spec PyProof.Rows L2
section
variable {T : Tab} {Φ : CallS} {k : Nat} {sc : Scope} {X : Cx}
/-- x op y -/
theorem snd_bin {o : Op} {op : Operator} {a b : E} {x y : Expr} {pos : Pos} (g : Good T Φ k sc X) (h : binOf o = some op) (ha : PE X x (tO X.K (evo Φ T.G a))) (hb : PE X y (tO X.K (evo Φ T.G b))) : PE X (.BinOp x op y pos) (tO X.K (evo Φ T.G (.op o [a, b]))) := by
  cases o <;> first | (cases h; done) | (cases h)
  · exact PE.weak (pe_op op_addD ha hb) fun σ H Q => tOp_of ok_add
  · exact PE.weak (pe_op op_sub ha hb) fun σ H Q => tOp_of ok_sub
  · exact PE.weak (pe_op op_mulD ha hb) fun σ H Q => tOp_of ok_mul
  · exact PE.weak (pe_op op_fdivN ha hb) fun σ H Q => tOp_of ok_fdiv
  · exact PE.weak (pe_op op_modN ha hb) fun σ H Q => tOp_of ok_mod
  · exact PE.weak (pe_op op_pow ha hb) fun σ H Q => tOp_of ok_pow
  · exact PE.weak (pe_op op_xor ha hb) fun σ H Q => tOp_of ok_xor
/-- a comparison's rule -/
def rCmpO (K : PySem.W.Frag) : Op → R2
  | .eq => rEqP K
  | .ne => rNeP K
  | .lt => rCmpD (fun i j => decide (i < j)) fun a b => decide (a < b)
  | .le => rCmpD (fun i j => decide (i ≤ j)) fun a b => !decide (b < a)
  | .gt => rCmpD (fun i j => decide (j < i)) fun a b => decide (b < a)
  | .ge => rCmpD (fun i j => decide (j ≤ i)) fun a b => !decide (a < b)
  | .isin => rInP K false
  | .notin => rInP K true
  | .isB => rIsB
  | .notB => rNotB
  | _ => fun _ _ _ _ => False
theorem cmp_rule {o : Op} {op : CmpOp} (hu : X.A.units + 64 < cLine) (h : cmpOf o = some op) : OpR X (compareOp op) (rCmpO X.K o) := by
  cases o <;> first | (cases h; done) | (cases h)
  · exact op_eqP hu
  · exact op_neP hu
  · exact op_ltD
  · exact op_leD
  · exact op_gtD
  · exact op_geD
  · exact op_inP hu
  · exact op_notInP hu
  · exact op_isBl
  · exact op_notBl
theorem cmp_ok {K : PySem.W.Frag} {o : Op} {op : CmpOp} (h : cmpOf o = some op) : OpOk K (r2n (rCmpO K o)) (opSem o) := by
  cases o <;> first | (cases h; done) | (cases h)
  · exact ok_eq
  · exact ok_ne
  · exact ok_lt
  · exact ok_le
  · exact ok_gt
  · exact ok_ge
  · exact ok_isin
  · exact ok_notin
  · exact ok_isB
  · exact ok_notB
/-- a comparison gives a bool -/
theorem cmp_bool {o : Op} {op : CmpOp} {ds : List D} {d : D} (h : cmpOf o = some op) (hs : opSem o ds = some d) : ∃ b, d = .imm (.bl b) := by
  have two : ∀ {f : Int → Int → Bool} {g : List Nat → List Nat → Bool} {x y : D}, opCmpI f g x y = some d → ∃ b, d = .imm (.bl b) := fun {f g x y} h => by
    unfold opCmpI at h
    split at h
    · exact ⟨_, ib_inv h⟩
    · exact ⟨_, ib_inv h⟩
    · cases h
  have bnd : ∀ {x : Option Bool}, x.bind ib = some d → ∃ b, d = .imm (.bl b) := fun {x} h => by
    obtain ⟨b, _, h2⟩ := bind_some h
    exact ⟨_, ib_inv h2⟩
  have bndN : ∀ {x : Option Bool}, x.bind (fun b => ib (!b)) = some d → ∃ b, d = .imm (.bl b) := fun {x} h => by
    obtain ⟨b, _, h2⟩ := bind_some h
    exact ⟨_, ib_inv h2⟩
  have isb : ∀ {n : Bool} {x y : D}, isB2 n x y = some d → ∃ b, d = .imm (.bl b) := fun {n x y} h => by
    unfold isB2 at h
    split at h
    · exact ⟨_, ib_inv h⟩
    · cases h
  cases o <;> first | (cases h; done) | (cases h)
  all_goals
    match ds, hs with
    | [x, y], hs => first
      | exact two hs
      | exact bnd hs
      | exact bndN hs
      | exact isb hs
theorem snd_cmp {o : Op} {op : CmpOp} {a b : E} {x y : Expr} {pos : Pos} (g : Good T Φ k sc X) (h : cmpOf o = some op) (hm : notSet y = true) (ha : PE X x (tO X.K (evo Φ T.G a))) (hb : PE X y (tO X.K (evo Φ T.G b))) : PE X (.Compare x [op] [y] pos) (tO X.K (evo Φ T.G (.op o [a, b]))) :=
  PE.weak (pe_cmpR (cmp_rule g.hu h) ha hb (notSet_mark hm)) fun σ H Q => tOp_of (cmp_ok h)
/-- a test's reading of a value -/
def tTst (K : PySem.W.Frag) (f : M Opd) : TT := fun σ H Q => ∃ e F o e' d b, EnvRep K H σ e F ∧ F.Nodup ∧ f e = some (o, e') ∧ resv e' o = some d ∧ truth d = some b ∧
  ∀ H' F', EnvRep K H' σ e' F' → F'.Nodup → Stp H F H' F' → Q b H'
theorem stp_drop {H H' : Hp} {F Fd F' : List Addr} (s : Stp H F H' (Fd ++ F')) : Stp H F H' F' := s.less (fun a z => z) fun a z => List.mem_append_right _ z
theorem snd_tcmp {o : Op} {op : CmpOp} {a b : E} {x y : Expr} {pos : Pos} (g : Good T Φ k sc X) (h : cmpOf o = some op) (hm : notSet y = true) (ha : PE X x (tO X.K (evo Φ T.G a))) (hb : PE X y (tO X.K (evo Φ T.G b))) : PT X (.Compare x [op] [y] pos) (tTst X.K (evo Φ T.G (.op o [a, b]))) :=
  PT.weak (pt_cmpR (cmp_rule g.hu h) ha hb (notSet_mark hm)) fun σ H Q q => by
    obtain ⟨e, F, o', e', d, c, he, n, hf, hr, ht, hQ⟩ := q
    refine tOp_of (cmp_ok h) ⟨e, F, o', e', he, n, hf, fun v H1 Fd F1 ox he1 n1 s1 => ?_⟩
    obtain ⟨os, ds, d', _, _, h5, rfl⟩ := evo_op hf
    obtain ⟨b', rfl⟩ := cmp_bool h h5
    cases hr
    cases ht
    obtain rfl := (show Rep X.K H1 v (.imm (.bl _)) Fd from ox).bl_of
    exact ⟨_, rfl, hQ H1 F1 he1 (nd_right n1) (stp_drop s1)⟩
/-- is None -/
theorem snd_isN {a : E} {x : Expr} {j : Nat} {p pos : Pos} (ha : PE X x (tO X.K (evo Φ T.G a))) : PE X (.Compare x [.Is] [.Constant .none j p] pos) (tO X.K (evo Φ T.G (.op .isN [a]))) :=
  PE.weak (pe_cmp (pc_isN ha)) fun σ H Q => tUn_of ok_isN
theorem snd_notN {a : E} {x : Expr} {j : Nat} {p pos : Pos} (ha : PE X x (tO X.K (evo Φ T.G a))) : PE X (.Compare x [.IsNot] [.Constant .none j p] pos) (tO X.K (evo Φ T.G (.op .notN [a]))) :=
  PE.weak (pe_cmp (pc_notN ha)) fun σ H Q => tUn_of ok_notN
theorem isN_bool {ds : List D} {d : D} (hs : opSem .isN ds = some d) : ∃ b, d = .imm (.bl b) := by
  match ds, hs with
  | [x], hs => exact ⟨_, ib_inv hs⟩
theorem notN_bool {ds : List D} {d : D} (hs : opSem .notN ds = some d) : ∃ b, d = .imm (.bl b) := by
  match ds, hs with
  | [x], hs => exact ⟨_, ib_inv hs⟩
theorem snd_tisN {a : E} {x : Expr} {j : Nat} {p pos : Pos} (ha : PE X x (tO X.K (evo Φ T.G a))) : PT X (.Compare x [.Is] [.Constant .none j p] pos) (tTst X.K (evo Φ T.G (.op .isN [a]))) :=
  PT.weak (pt_cmp (pc_isN ha)) fun σ H Q q => by
    obtain ⟨e, F, o', e', d, c, he, n, hf, hr, ht, hQ⟩ := q
    refine tUn_of (Q := fun x H1 => ∃ c, x = .bl c ∧ Q c H1) ok_isN ⟨e, F, o', e', he, n, hf, fun v H1 Fd F1 ox he1 n1 s1 => ?_⟩
    obtain ⟨os, ds, d', _, _, h5, rfl⟩ := evo_op hf
    obtain ⟨b', rfl⟩ := isN_bool h5
    cases hr
    cases ht
    obtain rfl := (show Rep X.K H1 v (.imm (.bl _)) Fd from ox).bl_of
    exact ⟨_, rfl, hQ H1 F1 he1 (nd_right n1) (stp_drop s1)⟩
theorem snd_tnotN {a : E} {x : Expr} {j : Nat} {p pos : Pos} (ha : PE X x (tO X.K (evo Φ T.G a))) : PT X (.Compare x [.IsNot] [.Constant .none j p] pos) (tTst X.K (evo Φ T.G (.op .notN [a]))) :=
  PT.weak (pt_cmp (pc_notN ha)) fun σ H Q q => by
    obtain ⟨e, F, o', e', d, c, he, n, hf, hr, ht, hQ⟩ := q
    refine tUn_of (Q := fun x H1 => ∃ c, x = .bl c ∧ Q c H1) ok_notN ⟨e, F, o', e', he, n, hf, fun v H1 Fd F1 ox he1 n1 s1 => ?_⟩
    obtain ⟨os, ds, d', _, _, h5, rfl⟩ := evo_op hf
    obtain ⟨b', rfl⟩ := notN_bool h5
    cases hr
    cases ht
    obtain rfl := (show Rep X.K H1 v (.imm (.bl _)) Fd from ox).bl_of
    exact ⟨_, rfl, hQ H1 F1 he1 (nd_right n1) (stp_drop s1)⟩
/-- -x, x[i], x[::-1] -/
theorem snd_neg {a : E} {x : Expr} {pos : Pos} (ha : PE X x (tO X.K (evo Φ T.G a))) : PE X (.UnaryOp .USub x pos) (tO X.K (evo Φ T.G (.op .neg [a]))) :=
  PE.weak (pe_un un_neg ha) fun σ H Q => tUn_of ok_neg
theorem snd_idx {a b : E} {x y : Expr} {pos : Pos} (hs : notSlice y = true) (ha : PE X x (tO X.K (evo Φ T.G a))) (hb : PE X y (tO X.K (evo Φ T.G b))) : PE X (.Subscript x y pos) (tO X.K (evo Φ T.G (.op .idx [a, b]))) :=
  PE.weak (pe_ix ix_seq ha hb (plainIx_of hs)) fun σ H Q => tOp_of ok_idx
theorem snd_rev {a : E} {x st : Expr} {p3 pos : Pos} (hs : isNeg1 st = true) (ha : PE X x (tO X.K (evo Φ T.G a))) : PE X (.Subscript x (.Slice none none (some st) p3) pos) (tO X.K (evo Φ T.G (.op .rev [a]))) := by
  unfold isNeg1 at hs
  split at hs
  · exact PE.weak (pe_revD ha (po_some (pe_un un_neg pe_int)) (fun σ H Q q => ⟨1, rfl, -1, rfl, q⟩)) fun σ H Q => tUn_of ok_rev
  · exact PE.weak (pe_revD ha (po_some (pe_op op_sub pe_int pe_int)) (fun σ H Q q => ⟨0, 1, rfl, rfl, -1, rfl, q⟩)) fun σ H Q => tUn_of ok_rev
  · cases hs
/-- built-ins by name -/
theorem r2_call {r : R2} {R : List V → Hp → VK → Prop} {K : PySem.W.Frag} {o : Op} (ok : OpOk K (r2n r) (opSem o)) (h : ∀ x y H Q, r x y H Q → R [x, y] H Q) : OpOk K R (opSem o) := fun vs ds H Q d pk hs hQ => by
  obtain ⟨x, y, rfl, q⟩ := ok vs ds H Q d pk hs hQ
  exact h x y H Q q
theorem r1_call {r : V → Hp → VK → Prop} {R : List V → Hp → VK → Prop} {K : PySem.W.Frag} {o : Op} (ok : OpOk K (r1n r) (opSem o)) (h : ∀ x H Q, r x H Q → R [x] H Q) : OpOk K R (opSem o) := fun vs ds H Q d pk hs hQ => by
  obtain ⟨x, rfl, q⟩ := ok vs ds H Q d pk hs hQ
  exact h x H Q q
section
variable {o : Op} {x : Str} {id : String} {es : List E} {y : Expr} {ys : List Expr} {p pos : Pos} {r : List V → Hp → VK → Prop}
theorem snd_bltB (g : Good T Φ k sc X) (hc : CallR X (.builtin id) r) (ok : OpOk X.K r (opSem o)) (hv : bootBuiltins x = some (.builtin id)) (hx : x ∈ bltNames) (hg : glB sc x = true) (hst : (y :: ys).all notStar = true) (h : PA X (y :: ys) (tOs X.K (evos Φ T.G es))) :
    PE X (.Call (.Name x p) (y :: ys) [] pos) (tO X.K (evo Φ T.G (.op o es))) := by
  obtain ⟨g1, g2, g3⟩ := gl_of hg
  rw [List.all_cons, Bool.and_eq_true] at hst
  exact PE.weak (pe_callB hc (g.gl g1) (g.blt _ hx) hv h g3 g2 (star_of hst.1 _ _) (stars_of hst.2)) fun σ H Q => tCB_of ok
theorem snd_bltT (g : Good T Φ k sc X) (hc : CallR X (.type id) r) (ok : OpOk X.K r (opSem o)) (hv : bootBuiltins x = some (.type id)) (hx : x ∈ bltNames) (hg : glB sc x = true) (hst : (y :: ys).all notStar = true) (h : PA X (y :: ys) (tOs X.K (evos Φ T.G es))) :
    PE X (.Call (.Name x p) (y :: ys) [] pos) (tO X.K (evo Φ T.G (.op o es))) := by
  obtain ⟨g1, g2, g3⟩ := gl_of hg
  rw [List.all_cons, Bool.and_eq_true] at hst
  exact PE.weak (pe_callTy hc (g.gl g1) (g.blt _ hx) hv h g3 g2 (star_of hst.1 _ _) (stars_of hst.2)) fun σ H Q => tCB_of ok
end
theorem snd_blt {o : Op} {x : Str} {fv : Value} {n : Nat} {es : List E} {xs : List Expr} {p pos : Pos} (g : Good T Φ k sc X) (hb : bltOf o = some (x, fv, n)) (hg : glB sc x = true) (hn : xs.length = n) (hst : xs.all notStar = true) (h : PA X xs (tOs X.K (evos Φ T.G es))) :
    PE X (.Call (.Name x p) xs [] pos) (tO X.K (evo Φ T.G (.op o es))) := by
  cases xs with
  | nil => cases o <;> first | (cases hb; done) | (cases hb; cases hn)
  | cons y ys =>
    cases o <;> first | (cases hb; done) | (cases hb)
    · exact snd_bltB g call_len ok_len (by decide +kernel) (by decide) hg hst h
    · exact snd_bltT g (call_listD g.calm) ok_list (by decide +kernel) (by decide) hg hst h
    · exact snd_bltT g (call_tupD g.calm) ok_tuple (by decide +kernel) (by decide) hg hst h
    · exact snd_bltB g (call_min2 g.calm) (r2_call ok_min2 fun x y H Q ⟨i, j, e1, e2, q⟩ => ⟨i, j, by rw [e1, e2], q⟩) (by decide +kernel) (by decide) hg hst h
    · exact snd_bltB g (call_max2 g.calm) (r2_call ok_max2 fun x y H Q ⟨i, j, e1, e2, q⟩ => ⟨i, j, by rw [e1, e2], q⟩) (by decide +kernel) (by decide) hg hst h
    · exact snd_bltT g call_int1 ok_int (by decide +kernel) (by decide) hg hst h
    · exact snd_bltB g call_abs (r1_call ok_abs fun x H Q ⟨i, e1, q⟩ => ⟨i, by rw [e1], q⟩) (by decide +kernel) (by decide) hg hst h
    · exact snd_bltB g (cr_sum g.calm) ok_sum (by decide +kernel) (by decide) hg hst h
    · exact snd_bltB g (cr_allD g.calm) ok_all (by decide +kernel) (by decide) hg hst h
    · exact snd_bltB g (cr_anyD g.calm) ok_any (by decide +kernel) (by decide) hg hst h
    · exact snd_bltB g (cr_sortD g.hu) ok_sorted (by decide +kernel) (by decide) hg hst h
    · exact snd_bltB g (cr_minD g.calm g.hu) ok_minL (by decide +kernel) (by decide) hg hst h
    · exact snd_bltB g (cr_maxD g.calm g.hu) ok_maxL (by decide +kernel) (by decide) hg hst h
    · exact snd_bltB g cr_repr ok_repr (by decide +kernel) (by decide) hg hst h
/-! ### isinstance -/
theorem tyNm_of {t : Ty} {e : Expr} (h : tyNm sc t e = true) : ∃ x p, e = .Name x p ∧ x = (tyName t : Str) ∧ glB sc x = true := by
  unfold tyNm at h
  split at h
  · rw [Bool.and_eq_true] at h
    exact ⟨_, _, rfl, of_decide_eq_true h.1, h.2⟩
  · cases h
theorem pe_ty {t : Ty} {e : Expr} (g : Good T Φ k sc X) (h : tyNm sc t e = true) : PE X e (tC (.ty (tyName t))) := by
  obtain ⟨x, p, rfl, rfl, h2⟩ := tyNm_of h
  obtain ⟨g1, g2, g3⟩ := gl_of h2
  cases t
  · exact pe_bltn (g.gl g1) (g.blt _ (by decide)) (by decide +kernel) (show RelV (.ty "int") (.type "int") from rfl) g3 g2
  · exact pe_bltn (g.gl g1) (g.blt _ (by decide)) (by decide +kernel) (show RelV (.ty "bool") (.type "bool") from rfl) g3 g2
  · exact pe_bltn (g.gl g1) (g.blt _ (by decide)) (by decide +kernel) (show RelV (.ty "str") (.type "str") from rfl) g3 g2
  · exact pe_bltn (g.gl g1) (g.blt _ (by decide)) (by decide +kernel) (show RelV (.ty "tuple") (.type "tuple") from rfl) g3 g2
  · exact pe_bltn (g.gl g1) (g.blt _ (by decide)) (by decide +kernel) (show RelV (.ty "list") (.type "list") from rfl) g3 g2
/-- the classes' names as values -/
def tTys (ts : List Ty) : TA := fun _ H Q => Q (ts.map fun t => .ty (tyName t)) H
theorem pa_tys (g : Good T Φ k sc X) : ∀ {ts : List Ty} {es : List Expr}, tyNms sc ts es = true → PA X es (tTys ts)
  | [], [], _ => PA.weak pa_nil fun σ H Q q => q
  | t :: ts, e :: es, h => by
    unfold tyNms at h
    rw [Bool.and_eq_true] at h
    obtain ⟨x, p, rfl, _, _⟩ := tyNm_of h.1
    exact PA.weak (pa_cons (pe_ty g h.1) (pa_tys g h.2)) fun σ H Q q => q
  | [], _ :: _, h => by cases h
  | _ :: _, [], h => by cases h
theorem evo_isi {a : E} {ts : List Ty} {e e1 : En} {r : Opd} (h : evo Φ T.G (.op (.isi ts) [a]) e = some (r, e1)) : ∃ x d, evo Φ T.G a e = some (x, e1) ∧ resv e1 x = some d ∧ r = .tmp (.imm (.bl (ts.any (isTy (rd d))))) := by
  obtain ⟨os, ds, d, h1, h2, h3, rfl⟩ := evo_op h
  obtain ⟨x, h4, rfl⟩ := evos_one h1
  unfold resvs at h2
  obtain ⟨d0, h5, h6⟩ := bind_some h2
  simp only [resvs, Option.bind_some] at h6
  cases h6
  exact ⟨x, d0, h4, h5, by rw [ib_inv (show ib (ts.any (isTy (rd d0))) = some d from h3)]⟩
theorem snd_isi1 {a : E} {t : Ty} {x c : Expr} {p pos : Pos} (g : Good T Φ k sc X) (hg : glB sc "isinstance" = true) (hx : notStar x = true) (hc : tyNm sc t c = true) (ha : PE X x (tO X.K (evo Φ T.G a))) :
    PE X (.Call (.Name "isinstance" p) [x, c] [] pos) (tO X.K (evo Φ T.G (.op (.isi [t]) [a]))) := by
  obtain ⟨g1, g2, g3⟩ := gl_of hg
  obtain ⟨y, q, rfl, _, _⟩ := tyNm_of hc
  refine PE.weak (pe_callB call_isi (g.gl g1) (g.blt _ (by decide)) (by decide +kernel) (pa_cons ha (pa_cons (pe_ty g hc) pa_nil) (star_of hx _ _)) g3 g2 (star_of hx _ _) (stars_of rfl)) fun σ H Q h => ?_
  obtain ⟨e, F, o, e', he, n, hf, hQ⟩ := h
  obtain ⟨z, d, h1, h2, rfl⟩ := evo_isi hf
  refine tO_mk he n h1 fun v H1 Fd F1 ox he1 n1 s1 => ?_
  obtain ⟨F0, r0⟩ := resv_ok he1 ox h2
  refine isi_one r0 ?_
  rw [List.any_cons, List.any_nil, Bool.or_false] at hQ
  exact hQ _ H1 [] F1 (Rep.imm (.bl _)) he1 (nd_right n1) (stp_drop s1)
theorem snd_isiT {a : E} {ts : List Ty} {x : Expr} {cs : List Expr} {j : Nat} {p p2 pos : Pos} (g : Good T Φ k sc X) (hg : glB sc "isinstance" = true) (hx : notStar x = true) (hc : tyNms sc ts cs = true) (hl : ts.length ≤ 10) (ha : PE X x (tO X.K (evo Φ T.G a))) :
    PE X (.Call (.Name "isinstance" p) [x, .Tuple cs j p2] [] pos) (tO X.K (evo Φ T.G (.op (.isi ts) [a]))) := by
  obtain ⟨g1, g2, g3⟩ := gl_of hg
  refine PE.weak (pe_callB call_isiT (g.gl g1) (g.blt _ (by decide)) (by decide +kernel) (pa_cons ha (pa_cons (pe_tup (pa_tys g hc)) pa_nil) (star_of hx _ _)) g3 g2 (star_of hx _ _) (stars_of rfl)) fun σ H Q h => ?_
  obtain ⟨e, F, o, e', he, n, hf, hQ⟩ := h
  obtain ⟨z, d, h1, h2, rfl⟩ := evo_isi hf
  refine tO_mk he n h1 fun v H1 Fd F1 ox he1 n1 s1 => ?_
  obtain ⟨F0, r0⟩ := resv_ok he1 ox h2
  refine ⟨by rw [List.length_map, sizeLine_is]; omega, fun q hq => ?_⟩
  have sm := same_new (o := HO.tup (ts.map fun t => V.ty (tyName t))) hq
  refine isi_many (r0.same sm) upd_same ?_
  exact hQ _ _ [] F1 (Rep.imm (.bl _)) (he1.same sm) (nd_right n1) ((stp_drop s1).trans (Stp.of_same sm))
end
end Sw
set_option maxHeartbeats 1000000
/-! Sw, part 13: soundness, slices, truth, methods, calls. -/
namespace Sw
open PySem PySem.Spec PyProof.Rows L2
section
variable {T : Tab} {Φ : CallS} {k : Nat} {sc : Scope} {X : Cx}
/-! ### slices -/
def tOpt (K : PySem.W.Frag) (f : M (Option Int)) : TO := fun σ H Q => ∃ e F o e', EnvRep K H σ e F ∧ F.Nodup ∧ f e = some (o, e') ∧ ∀ H' F', EnvRep K H' σ e' F' → F'.Nodup → Stp H F H' F' → Q o H'
theorem PO.weak {X : Cx} {e : Option Expr} {t t' : TO} (h : PO X e t) (w : ∀ σ H Q, t' σ H Q → t σ H Q) : PO X e t' := ⟨fun pins s σ H Q I q => h.run pins s σ H Q I (w σ H Q q)⟩
theorem snd_onone : PO X none (tOpt X.K (evopt Φ T.G none)) := PO.weak po_none fun σ H Q h => by
  obtain ⟨e, F, o, e', he, n, hf, hQ⟩ := h
  simp only [evopt, Option.some.injEq, Prod.mk.injEq] at hf
  obtain ⟨rfl, rfl⟩ := hf
  exact hQ H F he n (Stp.refl H F)
theorem snd_osome {a : E} {x : Expr} (ha : PE X x (tO X.K (evo Φ T.G a))) : PO X (some x) (tOpt X.K (evopt Φ T.G (some a))) := PO.weak (po_some ha) fun σ H Q h => by
  obtain ⟨e, F, o, e', he, n, hf, hQ⟩ := h
  simp only [evopt] at hf
  obtain ⟨⟨y, e1⟩, h1, h2⟩ := bind_some hf
  obtain ⟨i, h3, h4⟩ := bind_some h2
  cases h4
  refine tO_mk he n h1 fun v H1 Fd F1 ox he1 n1 s1 => ?_
  cases y with
  | slot _ => cases h3
  | tmp d =>
    cases d with
    | lst _ => cases h3
    | imm p =>
      cases p <;> first | (cases h3; done) | skip
      cases h3
      obtain rfl := (show Rep X.K H1 v (.imm (.int _)) Fd from ox).int_of
      exact ⟨_, rfl, hQ H1 F1 he1 (nd_right n1) (stp_drop s1)⟩
theorem snd_slc {a : E} {lo hi : Option E} {x : Expr} {l h : Option Expr} {p2 pos : Pos} (ha : PE X x (tO X.K (evo Φ T.G a))) (hl : PO X l (tOpt X.K (evopt Φ T.G lo))) (hh : PO X h (tOpt X.K (evopt Φ T.G hi))) :
    PE X (.Subscript x (.Slice l h none p2) pos) (tO X.K (evo Φ T.G (.slc a lo hi))) := PE.weak (pe_slice sl_D ha hl hh) fun σ H Q h => by
  obtain ⟨e, F, o, e', he, n, hf, hQ⟩ := h
  simp only [evo] at hf
  obtain ⟨⟨y, e1⟩, h1, hf⟩ := bind_some hf
  obtain ⟨⟨li, e2⟩, h2, hf⟩ := bind_some hf
  obtain ⟨⟨ui, e3⟩, h3, hf⟩ := bind_some hf
  obtain ⟨d, h4, hf⟩ := bind_some hf
  obtain ⟨r, h5, hf⟩ := bind_some hf
  cases hf
  refine tO_mk he n h1 fun v H1 Fd F1 ox he1 n1 s1 => ⟨e1, F1, li, e2, he1, nd_right n1, h2, fun H2 F2 he2 n2 s2 => ⟨e2, F2, ui, _, he2, n2, h3, fun H3 F3 he3 n3 s3 => ?_⟩⟩
  have ox2 := ox.frame he1 n1 s2
  obtain ⟨sa, na⟩ := stp_two s1 n1 ox.mut s2 n2
  have ox3 := ox2.frame he2 na s3
  obtain ⟨sb, nb⟩ := stp_two sa na ox2.mut s3 n3
  obtain ⟨F0, r0⟩ := resv_ok he3 ox3 h4
  refine slc_ok r0 h5 fun w H4 F4 sm rp fr n4 => ?_
  obtain ⟨sc4, nc4⟩ := stp_new sb nb he3.mut sm fr n4
  exact hQ w H4 F4 F3 rp (he3.same sm) nc4 sc4
/-! ### truth -/
theorem snd_tst {a : E} {x : Expr} (hp : plainTest x = true) (ha : PE X x (tO X.K (evo Φ T.G a))) : PT X x (tTst X.K (evo Φ T.G a)) := PT.weak (pt_truth ha (plainTest_of hp _)) fun σ H Q h => by
  obtain ⟨e, F, o, e', d, b, he, n, hf, hr, ht, hQ⟩ := h
  refine tO_mk he n hf fun v H1 Fd F1 ox he1 n1 s1 => ?_
  obtain ⟨F0, r0⟩ := resv_ok he1 ox hr
  exact ⟨b, truth_ok r0 ht, hQ H1 F1 he1 (nd_right n1) (stp_drop s1)⟩
theorem evo_not {a : E} {e e1 : En} {r : Opd} (h : evo Φ T.G (.not a) e = some (r, e1)) : ∃ x d b, evo Φ T.G a e = some (x, e1) ∧ resv e1 x = some d ∧ truth d = some b ∧ r = .tmp (.imm (.bl (!b))) := by
  simp only [evo] at h
  obtain ⟨⟨x, e2⟩, h1, h⟩ := bind_some h
  obtain ⟨d, h2, h⟩ := bind_some h
  obtain ⟨b, h3, h⟩ := bind_some h
  cases h
  exact ⟨x, d, b, h1, h2, h3, rfl⟩
theorem snd_not {a : E} {x : Expr} {pos : Pos} (ha : PE X x (tO X.K (evo Φ T.G a))) : PE X (.UnaryOp .Not x pos) (tO X.K (evo Φ T.G (.not a))) := PE.weak (pe_notT ha) fun σ H Q h => by
  obtain ⟨e, F, o, e', he, n, hf, hQ⟩ := h
  obtain ⟨y, d, b, h1, h2, h3, rfl⟩ := evo_not hf
  refine tO_mk he n h1 fun v H1 Fd F1 ox he1 n1 s1 => ?_
  obtain ⟨F0, r0⟩ := resv_ok he1 ox h2
  exact ⟨b, truth_ok r0 h3, hQ _ H1 [] F1 (Rep.imm (.bl _)) he1 (nd_right n1) (stp_drop s1)⟩
theorem snd_tnot {a : E} {x : Expr} {pos : Pos} (ha : PT X x (tTst X.K (evo Φ T.G a))) : PT X (.UnaryOp .Not x pos) (tTst X.K (evo Φ T.G (.not a))) := PT.weak (pt_not ha) fun σ H Q h => by
  obtain ⟨e, F, o, e', d, b, he, n, hf, hr, ht, hQ⟩ := h
  obtain ⟨y, d2, b2, h1, h2, h3, rfl⟩ := evo_not hf
  cases hr
  cases ht
  exact ⟨e, F, y, e', d2, b2, he, n, h1, h2, h3, hQ⟩
theorem evo_ife {t a b : E} {e e2 : En} {r : Opd} (h : evo Φ T.G (.ife t a b) e = some (r, e2)) : ∃ x d k e1, evo Φ T.G t e = some (x, e1) ∧ resv e1 x = some d ∧ truth d = some k ∧ (if k then evo Φ T.G a e1 else evo Φ T.G b e1) = some (r, e2) := by
  simp only [evo] at h
  obtain ⟨⟨x, e1⟩, h1, h⟩ := bind_some h
  obtain ⟨d, h2, h⟩ := bind_some h
  obtain ⟨b, h3, h⟩ := bind_some h
  exact ⟨x, d, b, e1, h1, h2, h3, h⟩
theorem snd_ife {t a b : E} {x y z : Expr} {pos : Pos} (ht : PT X x (tTst X.K (evo Φ T.G t))) (ha : PE X y (tO X.K (evo Φ T.G a))) (hb : PE X z (tO X.K (evo Φ T.G b))) : PE X (.IfExp x y z pos) (tO X.K (evo Φ T.G (.ife t a b))) := PE.weak (pe_ifExp ht ha hb) fun σ H Q h => by
  obtain ⟨e, F, o, e', he, n, hf, hQ⟩ := h
  obtain ⟨w, d, k, e1, h1, h2, h3, h4⟩ := evo_ife hf
  refine ⟨e, F, w, e1, d, k, he, n, h1, h2, h3, fun H1 F1 he1 n1 s1 => ?_⟩
  cases k with
  | true =>
    rw [if_pos rfl] at h4 ⊢
    exact tO_mk he1 n1 h4 fun v H2 Fd F2 ox he2 n2 s2 => hQ v H2 Fd F2 ox he2 n2 (s1.trans s2)
  | false =>
    rw [if_neg Bool.false_ne_true] at h4 ⊢
    exact tO_mk he1 n1 h4 fun v H2 Fd F2 ox he2 n2 s2 => hQ v H2 Fd F2 ox he2 n2 (s1.trans s2)
/-! ### and, or -/
theorem evand_one {a : E} {e : En} : evand Φ T.G [a] e = evo Φ T.G a e := by simp only [evand]
theorem evor_one {a : E} {e : En} : evor Φ T.G [a] e = evo Φ T.G a e := by simp only [evor]
theorem evand_two {a b : E} {as : List E} {e e2 : En} {r : Opd} (h : evand Φ T.G (a :: b :: as) e = some (r, e2)) : ∃ x d k e1, evo Φ T.G a e = some (x, e1) ∧ resv e1 x = some d ∧ truth d = some k ∧ (if k then evand Φ T.G (b :: as) e1 else some (x, e1)) = some (r, e2) := by
  rw [evand] at h
  obtain ⟨⟨x, e1⟩, h1, h⟩ := bind_some h
  obtain ⟨d, h2, h⟩ := bind_some h
  obtain ⟨k, h3, h⟩ := bind_some h
  exact ⟨x, d, k, e1, h1, h2, h3, h⟩
theorem evor_two {a b : E} {as : List E} {e e2 : En} {r : Opd} (h : evor Φ T.G (a :: b :: as) e = some (r, e2)) : ∃ x d k e1, evo Φ T.G a e = some (x, e1) ∧ resv e1 x = some d ∧ truth d = some k ∧ (if k then some (x, e1) else evor Φ T.G (b :: as) e1) = some (r, e2) := by
  rw [evor] at h
  obtain ⟨⟨x, e1⟩, h1, h⟩ := bind_some h
  obtain ⟨d, h2, h⟩ := bind_some h
  obtain ⟨k, h3, h⟩ := bind_some h
  exact ⟨x, d, k, e1, h1, h2, h3, h⟩
theorem snd_and1 {a : E} {x : Expr} {pos : Pos} (ha : PE X x (tO X.K (evo Φ T.G a))) : PE X (.BoolOp .And [x] pos) (tO X.K (evand Φ T.G [a])) := PE.weak (pe_one ha) fun σ H Q h => by
  obtain ⟨e, F, o, e', he, n, hf, hQ⟩ := h
  rw [evand_one] at hf
  exact ⟨e, F, o, e', he, n, hf, hQ⟩
theorem snd_or1 {a : E} {x : Expr} {pos : Pos} (ha : PE X x (tO X.K (evo Φ T.G a))) : PE X (.BoolOp .Or [x] pos) (tO X.K (evor Φ T.G [a])) := PE.weak (pe_one ha) fun σ H Q h => by
  obtain ⟨e, F, o, e', he, n, hf, hQ⟩ := h
  rw [evor_one] at hf
  exact ⟨e, F, o, e', he, n, hf, hQ⟩
theorem snd_and2 {a b : E} {as : List E} {x y : Expr} {ys : List Expr} {pos : Pos} (ha : PE X x (tO X.K (evo Φ T.G a))) (hb : PE X (.BoolOp .And (y :: ys) pos) (tO X.K (evand Φ T.G (b :: as)))) : PE X (.BoolOp .And (x :: y :: ys) pos) (tO X.K (evand Φ T.G (a :: b :: as))) :=
  PE.weak (pe_andT ha hb) fun σ H Q h => by
    obtain ⟨e, F, o, e', he, n, hf, hQ⟩ := h
    obtain ⟨z, d, k, e1, h1, h2, h3, h4⟩ := evand_two hf
    refine tO_mk he n h1 fun v H1 Fd F1 ox he1 n1 s1 => ?_
    obtain ⟨F0, r0⟩ := resv_ok he1 ox h2
    refine ⟨k, truth_ok r0 h3, ?_⟩
    cases k with
    | true =>
      rw [if_pos rfl] at h4 ⊢
      exact tO_mk he1 (nd_right n1) h4 fun v H2 Fd F2 ox he2 n2 s2 => hQ v H2 Fd F2 ox he2 n2 ((stp_drop s1).trans s2)
    | false =>
      rw [if_neg Bool.false_ne_true] at h4 ⊢
      cases h4
      exact hQ v H1 Fd F1 ox he1 n1 s1
theorem snd_or2 {a b : E} {as : List E} {x y : Expr} {ys : List Expr} {pos : Pos} (ha : PE X x (tO X.K (evo Φ T.G a))) (hb : PE X (.BoolOp .Or (y :: ys) pos) (tO X.K (evor Φ T.G (b :: as)))) : PE X (.BoolOp .Or (x :: y :: ys) pos) (tO X.K (evor Φ T.G (a :: b :: as))) :=
  PE.weak (pe_orT ha hb) fun σ H Q h => by
    obtain ⟨e, F, o, e', he, n, hf, hQ⟩ := h
    obtain ⟨z, d, k, e1, h1, h2, h3, h4⟩ := evor_two hf
    refine tO_mk he n h1 fun v H1 Fd F1 ox he1 n1 s1 => ?_
    obtain ⟨F0, r0⟩ := resv_ok he1 ox h2
    refine ⟨k, truth_ok r0 h3, ?_⟩
    cases k with
    | false =>
      rw [if_neg Bool.false_ne_true] at h4 ⊢
      exact tO_mk he1 (nd_right n1) h4 fun v H2 Fd F2 ox he2 n2 s2 => hQ v H2 Fd F2 ox he2 n2 ((stp_drop s1).trans s2)
    | true =>
      rw [if_pos rfl] at h4 ⊢
      cases h4
      exact hQ v H1 Fd F1 ox he1 n1 s1
theorem snd_tand1 {a : E} {x : Expr} {pos : Pos} (ha : PT X x (tTst X.K (evo Φ T.G a))) : PW X (.BoolOp .And [x] pos) (tTst X.K (evand Φ T.G [a])) :=
  ⟨fun wh pins s σ H Q I h => (pw_and1 ha).run wh pins s σ H Q I (by
    obtain ⟨e, F, o, e', d, b, he, n, hf, hQ⟩ := h
    rw [evand_one] at hf
    exact ⟨e, F, o, e', d, b, he, n, hf, hQ⟩)⟩
theorem snd_tor1 {a : E} {x : Expr} {pos : Pos} (ha : PT X x (tTst X.K (evo Φ T.G a))) : PW X (.BoolOp .Or [x] pos) (tTst X.K (evor Φ T.G [a])) :=
  ⟨fun wh pins s σ H Q I h => (pw_or1 ha).run wh pins s σ H Q I (by
    obtain ⟨e, F, o, e', d, b, he, n, hf, hQ⟩ := h
    rw [evor_one] at hf
    exact ⟨e, F, o, e', d, b, he, n, hf, hQ⟩)⟩
theorem snd_tand2 {a b : E} {as : List E} {x y : Expr} {ys : List Expr} {pos : Pos} (ha : PT X x (tTst X.K (evo Φ T.G a))) (hb : PW X (.BoolOp .And (y :: ys) pos) (tTst X.K (evand Φ T.G (b :: as)))) : PW X (.BoolOp .And (x :: y :: ys) pos) (tTst X.K (evand Φ T.G (a :: b :: as))) :=
  ⟨fun wh pins s σ H Q I h => (pw_and ha hb).run wh pins s σ H Q I (by
    obtain ⟨e, F, o, e', d, c, he, n, hf, hr, ht, hQ⟩ := h
    obtain ⟨z, d0, k, e1, h1, h2, h3, h4⟩ := evand_two hf
    refine ⟨e, F, z, e1, d0, k, he, n, h1, h2, h3, fun H1 F1 he1 n1 s1 => ?_⟩
    cases k with
    | true =>
      rw [if_pos rfl] at h4 ⊢
      exact ⟨e1, F1, o, e', d, c, he1, n1, h4, hr, ht, fun H2 F2 he2 n2 s2 => hQ H2 F2 he2 n2 (s1.trans s2)⟩
    | false =>
      rw [if_neg Bool.false_ne_true] at h4 ⊢
      cases h4
      rw [h2] at hr
      cases hr
      rw [h3] at ht
      cases ht
      exact hQ H1 F1 he1 n1 s1)⟩
theorem snd_tor2 {a b : E} {as : List E} {x y : Expr} {ys : List Expr} {pos : Pos} (ha : PT X x (tTst X.K (evo Φ T.G a))) (hb : PW X (.BoolOp .Or (y :: ys) pos) (tTst X.K (evor Φ T.G (b :: as)))) : PW X (.BoolOp .Or (x :: y :: ys) pos) (tTst X.K (evor Φ T.G (a :: b :: as))) :=
  ⟨fun wh pins s σ H Q I h => (pw_or ha hb).run wh pins s σ H Q I (by
    obtain ⟨e, F, o, e', d, c, he, n, hf, hr, ht, hQ⟩ := h
    obtain ⟨z, d0, k, e1, h1, h2, h3, h4⟩ := evor_two hf
    refine ⟨e, F, z, e1, d0, k, he, n, h1, h2, h3, fun H1 F1 he1 n1 s1 => ?_⟩
    cases k with
    | false =>
      rw [if_neg Bool.false_ne_true] at h4 ⊢
      exact ⟨e1, F1, o, e', d, c, he1, n1, h4, hr, ht, fun H2 F2 he2 n2 s2 => hQ H2 F2 he2 n2 (s1.trans s2)⟩
    | true =>
      rw [if_pos rfl] at h4 ⊢
      cases h4
      rw [h2] at hr
      cases hr
      rw [h3] at ht
      cases ht
      exact hQ H1 F1 he1 n1 s1)⟩
/-! ### a < b < c -/
theorem evo_chain {o1 o2 : Op} {a b c : E} {e e3 : En} {r : Opd} (h : evo Φ T.G (.chain o1 o2 a b c) e = some (r, e3)) : ∃ x y e1 e2 ds k, evo Φ T.G a e = some (x, e1) ∧ evo Φ T.G b e1 = some (y, e2) ∧ resvs e2 [x, y] = some ds ∧ opSem o1 ds = some (.imm (.bl k)) ∧
    ((k = true ∧ ∃ z ds2 d, evo Φ T.G c e2 = some (z, e3) ∧ resvs e3 [y, z] = some ds2 ∧ opSem o2 ds2 = some d ∧ r = .tmp d) ∨ (k = false ∧ r = .tmp (.imm (.bl false)) ∧ e3 = e2)) := by
  simp only [evo] at h
  obtain ⟨⟨x, e1⟩, h1, h⟩ := bind_some h
  obtain ⟨⟨y, e2⟩, h2, h⟩ := bind_some h
  obtain ⟨ds, h3, h⟩ := bind_some h
  obtain ⟨d, h4, h⟩ := bind_some h
  split at h
  · obtain ⟨⟨z, e4⟩, h5, h⟩ := bind_some h
    obtain ⟨ds2, h6, h⟩ := bind_some h
    obtain ⟨d2, h7, h⟩ := bind_some h
    cases h
    exact ⟨x, y, e1, e2, ds, true, h1, h2, h3, h4, .inl ⟨rfl, z, ds2, d2, h5, h6, h7, rfl⟩⟩
  · cases h
    exact ⟨x, y, e1, _, ds, false, h1, h2, h3, h4, .inr ⟨rfl, rfl, rfl⟩⟩
  · cases h
theorem chain_reads {o1 o2 : Op} {p q : CmpOp} {a b c : E} {σ : L2.St} {H : Hp} {Q : VK} (hp : cmpOf o1 = some p) (hq : cmpOf o2 = some q) (h : tO X.K (evo Φ T.G (.chain o1 o2 a b c)) σ H Q) :
    tChain (rCmpO X.K o1) (rCmpO X.K o2) (tO X.K (evo Φ T.G a)) (tO X.K (evo Φ T.G b)) (tO X.K (evo Φ T.G c)) σ H Q := by
  obtain ⟨e, F, o, e', he, n, hf, hQ⟩ := h
  obtain ⟨x, y, e1, e2, ds, k, h1, h2, h3, h4, h5⟩ := evo_chain hf
  refine tO_mk he n h1 fun vx H1 Fx F1 ox he1 n1 s1 => tO_mk he1 (nd_right n1) h2 fun vy H2 Fy F2 oy he2 n2 s2 => ?_
  obtain ⟨s3, n3⟩ := stp_two s1 n1 ox.mut s2 n2
  have ox2 := ox.frame he1 n1 s2
  have pk := resvs_ok he2 (.cons ox2 (.cons oy .nil)) h3
  have cont : ∀ (z : V) (H3 : Hp) (F3 : List Addr), Same H2 H3 → Rep X.K H3 z (.imm (.bl k)) F3 → (∀ a ∈ F3, H2 a = none) → F3.Nodup → (∃ k, z = .bl k ∧ if k = true then tO X.K (evo Φ T.G c) σ H3 fun w' H4 => rCmpO X.K o2 vy w' H4 Q else Q (.bl false) H3) := fun z H3 F3 sm rp fr n4 => by
    obtain rfl := rp.bl_of
    refine ⟨k, rfl, ?_⟩
    have he3 := he2.same sm
    have sy : Stp H F H3 (Fy ++ F2) := (s3.less (fun a z => z) fun a z => List.mem_append_right _ z).trans (Stp.of_same sm)
    have oy3 : ORep X.K H3 σ vy y Fy := oy.mono (Keeps.of_same sm) (same_off sm oy.mut)
    rcases h5 with ⟨rfl, z, ds2, d, g1, g2, g3, rfl⟩ | ⟨rfl, rfl, rfl⟩
    · rw [if_pos rfl]
      refine tO_mk he3 (nd_right n2) g1 fun vz H4 Fz F4 oz he4 n4' s4 => ?_
      have oy4 := oy3.frame he3 n2 s4
      obtain ⟨s5, n5⟩ := stp_two sy n2 oy3.mut s4 n4'
      have rs : ORs X.K H4 σ [vy, vz] [y, z] (Fy ++ (Fz ++ [])) := .cons oy4 (.cons oz .nil)
      obtain ⟨u, v, e, q⟩ := ops_end (cmp_ok hq) rs he4 (by rw [List.append_nil, List.append_assoc]; exact n5) (by rw [List.append_nil, List.append_assoc]; exact s5) g2 g3 hQ
      cases e
      exact q
    · rw [if_neg Bool.false_ne_true]
      exact hQ _ H3 [] F2 (Rep.imm (.bl _)) he3 (nd_right n2) (stp_drop sy)
  obtain ⟨u, v, eq, q1⟩ := cmp_ok hp [vx, vy] ds H2 (fun z H3 => ∃ k, z = .bl k ∧ if k = true then tO X.K (evo Φ T.G c) σ H3 fun w' H4 => rCmpO X.K o2 vy w' H4 Q else Q (.bl false) H3) (.imm (.bl k)) pk h4 cont
  cases eq
  exact q1
theorem snd_chain {o1 o2 : Op} {p q : CmpOp} {a b c : E} {x y z : Expr} {pos : Pos} (g : Good T Φ k sc X) (hp : cmpOf o1 = some p) (hq : cmpOf o2 = some q) (hm : lastMarks [p, q] [y, z] = false)
    (ha : PE X x (tO X.K (evo Φ T.G a))) (hb : PE X y (tO X.K (evo Φ T.G b))) (hc : PE X z (tO X.K (evo Φ T.G c))) : PE X (.Compare x [p, q] [y, z] pos) (tO X.K (evo Φ T.G (.chain o1 o2 a b c))) :=
  PE.weak (pe_chain (cmp_rule g.hu hp) (cmp_rule g.hu hq) ha hb hc hm) fun σ H Q h => chain_reads hp hq h
theorem snd_tchain {o1 o2 : Op} {p q : CmpOp} {a b c : E} {x y z : Expr} {pos : Pos} (g : Good T Φ k sc X) (hp : cmpOf o1 = some p) (hq : cmpOf o2 = some q) (hm : lastMarks [p, q] [y, z] = false)
    (ha : PE X x (tO X.K (evo Φ T.G a))) (hb : PE X y (tO X.K (evo Φ T.G b))) (hc : PE X z (tO X.K (evo Φ T.G c))) : PT X (.Compare x [p, q] [y, z] pos) (tTst X.K (evo Φ T.G (.chain o1 o2 a b c))) :=
  PT.weak (pt_chain (cmp_rule g.hu hp) (cmp_rule g.hu hq) ha hb hc hm) fun σ H Q h => by
    obtain ⟨e, F, o', e', d, c', he, n, hf, hr, ht, hQ⟩ := h
    refine chain_reads (Q := fun x H' => ∃ k, x = .bl k ∧ Q k H') hp hq ⟨e, F, o', e', he, n, hf, fun v H1 Fd F1 ox he1 n1 s1 => ?_⟩
    have hb : ∃ b, o' = .tmp (.imm (.bl b)) := by
      obtain ⟨x, y, e1, e2, ds, k, h1, h2, h3, h4, h5⟩ := evo_chain hf
      rcases h5 with ⟨_, z, ds2, d, _, _, g3, rfl⟩ | ⟨_, rfl, _⟩
      · obtain ⟨b, rfl⟩ := cmp_bool hq g3
        exact ⟨b, rfl⟩
      · exact ⟨_, rfl⟩
    obtain ⟨b, rfl⟩ := hb
    cases hr
    cases ht
    obtain rfl := (show Rep X.K H1 v (.imm (.bl _)) Fd from ox).bl_of
    exact ⟨_, rfl, hQ H1 F1 he1 (nd_right n1) (stp_drop s1)⟩
end
end Sw
set_option maxHeartbeats 1000000
/-! Sw, part 14: soundness, methods, changes, calls. -/
namespace Sw
open PySem PySem.Spec PyProof.Rows L2
section
variable {T : Tab} {Φ : CallS} {k : Nat} {sc : Scope} {X : Cx}
/-! ### methods that read -/
def mthR (K : PySem.W.Frag) : Op → V → List V → Hp → VK → Prop
  | .join => rJoinD K
  | .index => rIndexP K
  | .swapcase => rTx2 Txt.swapcase
  | .lower => rTx2 Txt.lower
  | .upper => rTx2 Txt.upper
  | _ => fun _ _ _ _ => False
def mthT : Op → String
  | .join => "str"
  | .swapcase => "str"
  | .lower => "str"
  | .upper => "str"
  | _ => "list"
theorem evo_mth {o : Op} {a : E} {es : List E} {e e2 : En} {r : Opd} (h : evo Φ T.G (.mth o a es) e = some (r, e2)) : ∃ x e1 d0 xs ds d, evo Φ T.G a e = some (x, e1) ∧ resv e1 x = some d0 ∧ rcvOk o d0 = true ∧ evos Φ T.G es e1 = some (xs, e2) ∧ resvs e2 (x :: xs) = some ds ∧ opSem o ds = some d ∧ r = .tmp d := by
  simp only [evo] at h
  obtain ⟨⟨x, e1⟩, h1, h⟩ := bind_some h
  obtain ⟨d0, h2, h⟩ := bind_some h
  split at h
  · rename_i c
    obtain ⟨⟨xs, e3⟩, h3, h⟩ := bind_some h
    obtain ⟨ds, h4, h⟩ := bind_some h
    obtain ⟨d, h5, h⟩ := bind_some h
    cases h
    exact ⟨x, e1, d0, xs, ds, d, h1, h2, c, h3, h4, h5, rfl⟩
  · cases h
theorem rcv_ty {K : PySem.W.Frag} {o : Op} {d : D} {v : V} {F : List Addr} {H : Hp} (c : rcvOk o d = true) (r : Rep K H v d F) : tyV K (mthT o) v H := by
  unfold rcvOk at c
  split at c
  · obtain ⟨rfl, _⟩ := r.str_of; rfl
  · obtain ⟨a, xs, rfl, h, _, _⟩ := r.lst_of; exact .inl ⟨rfl, xs, SqL.of h⟩
  · obtain ⟨a, xs, rfl, h, _⟩ := r.flst_of; exact .inl ⟨rfl, xs, h.sql⟩
  · obtain ⟨rfl, _⟩ := r.str_of; rfl
  · obtain ⟨rfl, _⟩ := r.str_of; rfl
  · obtain ⟨rfl, _⟩ := r.str_of; rfl
  · cases c
theorem mth_reads {o : Op} {a : E} {es : List E} {σ : L2.St} {H : Hp} {Q : VK} (ok : OpOk X.K (m2n (mthR X.K o)) (opSem o)) (h : tO X.K (evo Φ T.G (.mth o a es)) σ H Q) : tBM X.K (mthT o) (mthR X.K o) (tO X.K (evo Φ T.G a)) (tOs X.K (evos Φ T.G es)) σ H Q := by
  obtain ⟨e, F, o', e', he, n, hf, hQ⟩ := h
  obtain ⟨x, e1, d0, xs, ds, d, h1, h2, h3, h4, h5, h6, rfl⟩ := evo_mth hf
  refine tO_mk he n h1 fun v H1 Fx F1 ox he1 n1 s1 => ?_
  obtain ⟨F0, r0⟩ := resv_ok he1 ox h2
  refine ⟨rcv_ty h3 r0, e1, F1, xs, e', he1, nd_right n1, h4, fun vs H2 Fs F2 rs he2 n2 s2 => ?_⟩
  obtain ⟨s3, n3⟩ := stp_two s1 n1 ox.mut s2 n2
  have rs' : ORs X.K H2 σ (v :: vs) (x :: xs) (Fx ++ Fs) := .cons (ox.frame he1 n1 s2) rs
  obtain ⟨v', vs', e, q⟩ := ops_end ok rs' he2 (by rw [List.append_assoc]; exact n3) (by rw [List.append_assoc]; exact s3) h5 h6 hQ
  cases e
  exact q
theorem snd_mth {o : Op} {a : E} {es : List E} {x : Expr} {xs : List Expr} {nm : Str} {n : Nat} {apos cpos : Pos} (g : Good T Φ k sc X) (hm : mthOf o = some (nm, n)) (hn : xs.length = n) (hb : baseOk x = true) (hl : (apos.endLine == cpos.line) = true) (hst : xs.all notStar = true) (hel : es.length = xs.length)
    (ha : PE X x (tO X.K (evo Φ T.G a))) (hs : PA X xs (tOs X.K (evos Φ T.G es))) : PE X (.Call (.Attribute x nm apos) xs [] cpos) (tO X.K (evo Φ T.G (.mth o a es))) := by
  cases xs with
  | nil =>
    have key : es = [] → OpOk X.K (m2n (mthR X.K o)) (opSem o) → ∀ {σ : L2.St} {H : Hp} {Q : VK}, tO X.K (evo Φ T.G (.mth o a es)) σ H Q → tBM0 X.K (mthT o) (mthR X.K o) (tO X.K (evo Φ T.G a)) σ H Q := fun he ok {σ H Q} h => by
      subst he
      obtain ⟨e, F, x, e1, hx, n, hf, hQ⟩ := mth_reads ok h
      refine ⟨e, F, x, e1, hx, n, hf, fun v H1 Fd F1 ox he1 n1 s1 => ?_⟩
      obtain ⟨ty, e2, F2, os, e3, he2, n2, hf2, hQ2⟩ := hQ v H1 Fd F1 ox he1 n1 s1
      simp only [evos, Option.some.injEq, Prod.mk.injEq] at hf2
      obtain ⟨rfl, rfl⟩ := hf2
      exact ⟨ty, hQ2 [] H1 [] F2 .nil he2 n2 (Stp.refl H1 F2)⟩
    have hes : es = [] := by
      cases es with
      | nil => rfl
      | cons _ _ => cases hel
    cases o <;> first | (cases hm; done) | (cases hm; first | (cases hn; done) | skip)
    · exact PE.weak (pe_bm0 PySem.F.plainAttrs_str PySem.F.slot_str_swapcase PySem.F.type_str_swapcase mt_swapcase ha (base_of hb _ _ _) hl) fun σ H Q => key hes ok_swapcase
    · exact PE.weak (pe_bm0 PySem.F.plainAttrs_str PySem.F.slot_str_lower PySem.F.type_str_lower mt_lower2 ha (base_of hb _ _ _) hl) fun σ H Q => key hes ok_lower
    · exact PE.weak (pe_bm0 PySem.F.plainAttrs_str PySem.F.slot_str_upper PySem.F.type_str_upper mt_upper2 ha (base_of hb _ _ _) hl) fun σ H Q => key hes ok_upper
  | cons y ys =>
    have hst' := hst
    rw [List.all_cons, Bool.and_eq_true] at hst
    have few : ∀ m : Nat, (y :: ys).length = m → m < 20 → ((backTo cpos (starEach (y :: ys) X.env)).all (fun x => !x.1) && (backToKw cpos (keywordEach [] X.env)).all (fun x => x.1.isSome)
      && decide ((y :: ys).length + ([] : List Keyword).length + (if ([] : List Keyword).isEmpty then 0 else 1) < 30)) = true := fun m h1 h2 => by
      rw [stars_all hst']
      show (true && true && decide ((y :: ys).length + 0 + 0 < 30)) = true
      rw [h1, decide_eq_true (by omega)] <;> rfl
    cases o <;> first | (cases hm; done) | (cases hm; first | (cases hn; done) | skip)
    · exact PE.weak (pe_bm PySem.F.plainAttrs_str PySem.F.slot_str_join PySem.F.type_str_join mt_join ha hs (base_of hb _ _ _) (few 1 hn (by decide)) hl (star_of hst.1 _ _) (stars_of hst.2)) fun σ H Q => mth_reads ok_join
    · exact PE.weak (pe_bm PySem.F.plainAttrs_list PySem.F.slot_list_index PySem.F.type_list_index (mt_indexP g.hu) ha hs (base_of hb _ _ _) (few 1 hn (by decide)) hl (star_of hst.1 _ _) (stars_of hst.2)) fun σ H Q => mth_reads ok_index
/-! ### methods that change a name's list -/
theorem evo_mut {m : MOp} {i : Nat} {es : List E} {e e2 : En} {r : Opd} (h : evo Φ T.G (.mut m i es) e = some (r, e2)) : ∃ d0 zs os e1 ds xs ys p, getE e i = some d0 ∧ listOf d0 = some zs ∧ evos Φ T.G es e = some (os, e1) ∧ resvs e1 os = some ds ∧ getE e1 i = some (.lst xs) ∧ mutSem m xs ds = some (ys, p) ∧ r = .tmp (.imm p) ∧ e2 = e1.set i (some (.lst ys)) := by
  simp only [evo] at h
  obtain ⟨d0, g0, h⟩ := bind_some h
  obtain ⟨zs, g1, h⟩ := bind_some h
  obtain ⟨⟨os, e1⟩, h1, h⟩ := bind_some h
  obtain ⟨⟨p, e3⟩, h2, h⟩ := bind_some h
  cases h
  unfold mutDo at h2
  obtain ⟨ds, h3, h2⟩ := bind_some h2
  split at h2
  · rename_i xs hx
    split at h2
    · rename_i c
      obtain ⟨⟨ys, q⟩, h4, h5⟩ := bind_some h2
      cases h5
      exact ⟨d0, zs, os, e1, ds, xs, ys, _, g0, g1, h1, h3, hx, h4, rfl, rfl⟩
    · cases h2
  · cases h2
theorem listOf_ty {K : PySem.W.Frag} {H : Hp} {d : D} {zs : List P} {v : V} {F : List Addr} (h : listOf d = some zs) (r : Rep K H v d F) : tyV K "list" v H := by
  unfold listOf at h
  split at h
  · obtain ⟨a, xs, rfl, h, _⟩ := r.flst_of; exact .inl ⟨rfl, xs, h.sql⟩
  · obtain ⟨a, xs, rfl, h, _, _⟩ := r.lst_of; exact .inl ⟨rfl, xs, SqL.of h⟩
  · cases h
theorem mut_reads {m : MOp} {i : Nat} {es : List E} {σ : L2.St} {H : Hp} {Q : VK} (h : tO X.K (evo Φ T.G (.mut m i es)) σ H Q) : tBM X.K "list" (rMutD X.K m) (tVar i) (tOs X.K (evos Φ T.G es)) σ H Q := by
  obtain ⟨e, F, o', e', he, n, hf, hQ⟩ := h
  obtain ⟨d0, zs, os, e1, ds, xs, ys, p, g0, g1, h1, h2, h3, h4, rfl, rfl⟩ := evo_mut hf
  obtain ⟨v0, Fi, q1, q2, _⟩ := he.get g0
  refine ⟨v0, q1, listOf_ty g1 q2, e, F, os, e1, he, n, h1, fun vs H2 Fs F2 rs he2 n2 s2 => ?_⟩
  obtain ⟨a, us, w1, w2, w3, w4, w5⟩ := he2.write (nd_right n2) h3
  rw [q1] at w1
  cases w1
  refine mut_ok w2 w3 (resvs_ok he2 rs h2) h4 fun v vs' r1 r2 => ?_
  obtain ⟨F3, k1, k2, k3, k4⟩ := w5 vs' ys r1
  exact hQ v _ [] F3 (Rep.imm (r2.keep (k4.keeps he2.mut))) k1 k2 ((stp_drop s2).trans k4)
theorem snd_mut {m : MOp} {i : Nat} {es : List E} {x : Str} {xs : List Expr} {p apos cpos : Pos} (g : Good T Φ k sc X) (hv : visB T.N sc i x = true) (hl : (apos.endLine == cpos.line) = true) (hn : xs.length < 20) (hst : xs.all notStar = true) (hel : es.length = xs.length)
    (hs : PA X xs (tOs X.K (evos Φ T.G es))) : PE X (.Call (.Attribute (.Name x p) (mmName m).1 apos) xs [] cpos) (tO X.K (evo Φ T.G (.mut m i es))) := by
  obtain ⟨h1, h2, h3, h4⟩ := vis_of hv
  have hx : PE X (.Name x p) (tVar i) := pe_var (i := i) (by rw [g.N]; exact h1) (by rw [g.scope]; exact h2) h3 h4
  cases xs with
  | nil =>
    cases es with
    | cons a as => cases hel
    | nil =>
      have key : ∀ {σ : L2.St} {H : Hp} {Q : VK}, tO X.K (evo Φ T.G (.mut m i [])) σ H Q → tBM0 X.K "list" (rMutD X.K m) (tVar i) σ H Q := fun {σ H Q} h => by
        obtain ⟨v, q1, q2, e, F, o, e', he, n, hf, hQ⟩ := mut_reads h
        simp only [evos, Option.some.injEq, Prod.mk.injEq] at hf
        obtain ⟨rfl, rfl⟩ := hf
        exact ⟨v, q1, q2, hQ [] H [] F .nil he n (Stp.refl H F)⟩
      cases m
      · exact PE.weak (pe_bm0 PySem.F.plainAttrs_list PySem.F.slot_list_append PySem.F.type_list_append (mt_mutD g.hu .append) hx (base_of rfl _ _ _) hl) fun σ H Q => key
      · exact PE.weak (pe_bm0 PySem.F.plainAttrs_list PySem.F.slot_list_extend PySem.F.type_list_extend (mt_mutD g.hu .extend) hx (base_of rfl _ _ _) hl) fun σ H Q => key
      · exact PE.weak (pe_bm0 PySem.F.plainAttrs_list PySem.F.slot_list_pop PySem.F.type_list_pop (mt_mutD g.hu .pop) hx (base_of rfl _ _ _) hl) fun σ H Q => key
      · exact PE.weak (pe_bm0 PySem.F.plainAttrs_list PySem.F.slot_list_pop PySem.F.type_list_pop (mt_mutD g.hu .popAt) hx (base_of rfl _ _ _) hl) fun σ H Q => key
      · exact PE.weak (pe_bm0 PySem.F.plainAttrs_list PySem.F.slot_list_remove PySem.F.type_list_remove (mt_mutD g.hu .remove) hx (base_of rfl _ _ _) hl) fun σ H Q => key
  | cons y ys =>
    have hst' := hst
    rw [List.all_cons, Bool.and_eq_true] at hst
    have few : ((backTo cpos (starEach (y :: ys) X.env)).all (fun x => !x.1) && (backToKw cpos (keywordEach [] X.env)).all (fun x => x.1.isSome)
      && decide ((y :: ys).length + ([] : List Keyword).length + (if ([] : List Keyword).isEmpty then 0 else 1) < 30)) = true := by
      rw [stars_all hst']
      show (true && true && decide ((y :: ys).length + 0 + 0 < 30)) = true
      rw [decide_eq_true (by omega)] <;> rfl
    cases m
    · exact PE.weak (pe_bm PySem.F.plainAttrs_list PySem.F.slot_list_append PySem.F.type_list_append (mt_mutD g.hu .append) hx hs (base_of rfl _ _ _) few hl (star_of hst.1 _ _) (stars_of hst.2)) fun σ H Q => mut_reads
    · exact PE.weak (pe_bm PySem.F.plainAttrs_list PySem.F.slot_list_extend PySem.F.type_list_extend (mt_mutD g.hu .extend) hx hs (base_of rfl _ _ _) few hl (star_of hst.1 _ _) (stars_of hst.2)) fun σ H Q => mut_reads
    · exact PE.weak (pe_bm PySem.F.plainAttrs_list PySem.F.slot_list_pop PySem.F.type_list_pop (mt_mutD g.hu .pop) hx hs (base_of rfl _ _ _) few hl (star_of hst.1 _ _) (stars_of hst.2)) fun σ H Q => mut_reads
    · exact PE.weak (pe_bm PySem.F.plainAttrs_list PySem.F.slot_list_pop PySem.F.type_list_pop (mt_mutD g.hu .popAt) hx hs (base_of rfl _ _ _) few hl (star_of hst.1 _ _) (stars_of hst.2)) fun σ H Q => mut_reads
    · exact PE.weak (pe_bm PySem.F.plainAttrs_list PySem.F.slot_list_remove PySem.F.type_list_remove (mt_mutD g.hu .remove) hx hs (base_of rfl _ _ _) few hl (star_of hst.1 _ _) (stars_of hst.2)) fun σ H Q => mut_reads
/-! ### calls -/
theorem set_same {σ : L2.St} {i : Nat} {v : V} (h : σ[i]? = some (some v)) : σ.set i (some v) = σ := by
  apply List.ext_getElem?
  intro j
  by_cases c : i = j
  · subst c
    rw [h, List.getElem?_set_self (List.getElem?_eq_some_iff.mp h).1]
  · rw [List.getElem?_set_ne c]
theorem resvs_noslot {e : En} {i : Nat} {z : Option D} : ∀ {os : List Opd}, noSlot os i = true → resvs (e.set i z) os = resvs e os
  | [], _ => rfl
  | o :: os, h => by
    unfold noSlot at h
    rw [List.all_cons, Bool.and_eq_true] at h
    have ih := resvs_noslot (e := e) (z := z) (os := os) h.2
    have e1 : resv (e.set i z) o = resv e o := by
      cases o with
      | tmp d => rfl
      | slot j =>
        have h1 : (j != i) = true := h.1
        exact getE_set_ne e z (fun q => by subst q; simp at h1)
    unfold resvs
    rw [e1, ih]
theorem pass_ok {K : PySem.W.Frag} {H : Hp} {σ : L2.St} {rs0 : List D} : ∀ {vs : List V} {os : List Opd} {Fs : List Addr}, ORs K H σ vs os Fs → ∀ {e e2 : En} {F : List Addr} {ds rs : List D}, EnvRep K H σ e F → (Fs ++ F).Nodup → resvs e os = some ds → back os ds rs e = some e2 →
    ∃ Gs R, Reps K H vs ds Gs ∧ (Gs ++ R).Nodup ∧ (∀ a, a ∈ Gs ++ R → a ∈ Fs ++ F) ∧ MutF H R ∧
      ∀ H' Fr, Reps K H' vs rs Fr → Keeps H H' → (∀ a ∈ R, H' a = H a) → (Fr ++ R).Nodup → ∃ F', EnvRep K H' σ e2 F' ∧ F'.Nodup ∧ ∀ a, a ∈ F' → a ∈ Fr ++ R := by
  intro vs os Fs h
  induction h with
  | nil =>
    intro e e2 F ds rs he n hr hb
    cases hr
    unfold back at hb
    cases rs with
    | cons _ _ => cases hb
    | nil =>
      cases hb
      exact ⟨[], F, .nil, n, fun a z => z, he.mut, fun H' Fr _ kp sm nf => ⟨F, he.mono kp sm, nd_right nf, fun a z => List.mem_append_right _ z⟩⟩
  | @cons v vs o os F0 G0 r _ ih =>
    intro e e2 F ds rs he n hr hb
    unfold resvs at hr
    obtain ⟨d, hr1, hr2⟩ := bind_some hr
    obtain ⟨ds', hr3, hr4⟩ := bind_some hr2
    cases hr4
    have nG : (G0 ++ F).Nodup := by rw [List.append_assoc] at n; exact nd_right n
    -- the operand leaves the names as they are
    have plain : ∀ {Fd : List Addr}, Rep K H v d Fd → (∀ a ∈ Fd, a ∈ F0) → Fd.Nodup → (∃ r0 rs', rs = r0 :: rs' ∧ back os ds' rs' e = some e2) → ∃ Gs R, Reps K H (v :: vs) (d :: ds') Gs ∧ (Gs ++ R).Nodup ∧ (∀ a, a ∈ Gs ++ R → a ∈ (F0 ++ G0) ++ F) ∧ MutF H R ∧
      ∀ H' Fr, Reps K H' (v :: vs) rs Fr → Keeps H H' → (∀ a ∈ R, H' a = H a) → (Fr ++ R).Nodup → ∃ F', EnvRep K H' σ e2 F' ∧ F'.Nodup ∧ ∀ a, a ∈ F' → a ∈ Fr ++ R := by
      intro Fd rd sub nd ⟨r0, rs', er, hb'⟩
      subst er
      obtain ⟨Gs, R, g1, g2, g3, g4, g5⟩ := ih he nG hr3 hb'
      have off : ∀ a ∈ Fd, a ∉ Gs ++ R := fun a z y => by
        have n2 := n
        rw [List.append_assoc] at n2
        exact nd_off n2 a (sub a z) (g3 a y)
      refine ⟨Fd ++ Gs, R, .cons rd g1, ?_, fun a z => ?_, g4, fun H' Fr q1 q2 q3 q4 => ?_⟩
      · rw [List.append_assoc]
        exact nd_mk nd g2 off
      · rw [List.append_assoc] at z ⊢
        rcases List.mem_append.mp z with z | z
        · exact List.mem_append_left _ (sub a z)
        · exact List.mem_append_right _ (g3 a z)
      · cases q1 with
        | @cons _ _ _ _ Fv Ft p1 p2 =>
          rw [List.append_assoc] at q4
          obtain ⟨F', k1, k2, k3⟩ := g5 H' Ft p2 q2 q3 (nd_right q4)
          exact ⟨F', k1, k2, fun a z => by rw [List.append_assoc]; exact List.mem_append_right _ (k3 a z)⟩
    unfold back at hb
    cases rs with
    | nil => cases hb
    | cons r0 rs' =>
      cases o with
      | tmp d' =>
        cases hr1
        exact plain (show Rep K H v d F0 from r) (fun a z => z) (by rw [List.append_assoc] at n; exact nd_left n) ⟨r0, rs', rfl, hb⟩
      | slot i =>
        obtain ⟨hi, ef⟩ := (show σ[i]? = some (some v) ∧ F0 = [] from r)
        subst ef
        have hr1 : getE e i = some d := hr1
        cases d with
        | imm p =>
          obtain ⟨v', Fi, w1, w2, _⟩ := he.get hr1
          rw [hi] at w1
          cases w1
          obtain ⟨w3, rfl⟩ := w2.imm_of
          exact plain (Rep.imm w3) (fun a z => nomatch z) List.nodup_nil ⟨r0, rs', rfl, hb⟩
        | lst xs =>
          have hb : (if noSlot os i then (back os ds' rs' (e.set i none)).bind fun e' => some (e'.set i (some r0)) else none) = some e2 := hb
          split at hb
          · rename_i ns
            obtain ⟨e', hb1, hb2⟩ := bind_some hb
            cases hb2
            obtain ⟨v', Fi, F1, w1, w2, w3, w4, w5⟩ := he.out hr1
            rw [hi] at w1
            cases w1
            have n5 := w5 (nd_right nG)
            have nG1 : (G0 ++ F1).Nodup := nd_mk (nd_left nG) (nd_right n5) fun a z y => nd_off nG a z (w4 a (List.mem_append_right _ y))
            obtain ⟨Gs, R, g1, g2, g3, g4, g5⟩ := ih w3 nG1 (by rw [resvs_noslot ns]; exact hr3) hb1
            have off : ∀ a ∈ Fi, a ∉ Gs ++ R := fun a z y => by
              rcases List.mem_append.mp (g3 a y) with y | y
              · exact nd_off nG a y (w4 a (List.mem_append_left _ z))
              · exact nd_off n5 a z y
            refine ⟨Fi ++ Gs, R, .cons w2 g1, ?_, fun a z => ?_, g4, fun H' Fr q1 q2 q3 q4 => ?_⟩
            · rw [List.append_assoc]
              exact nd_mk (nd_left n5) g2 off
            · rw [List.append_assoc] at z
              show a ∈ G0 ++ F
              rcases List.mem_append.mp z with z | z
              · exact List.mem_append_right _ (w4 a (List.mem_append_left _ z))
              · rcases List.mem_append.mp (g3 a z) with z | z
                · exact List.mem_append_left _ z
                · exact List.mem_append_right _ (w4 a (List.mem_append_right _ z))
            · cases q1 with
              | @cons _ _ _ _ Fv Ft p1 p2 =>
                rw [List.append_assoc] at q4
                obtain ⟨F', k1, k2, k3⟩ := g5 H' Ft p2 q2 q3 (nd_right q4)
                obtain ⟨F2, m1, m2, m3⟩ := k1.setD p1 i
                rw [set_same hi] at m1
                refine ⟨F2, m1, m3 (nd_mk (nd_left q4) k2 fun a z y => nd_off q4 a z (k3 a y)), fun a z => ?_⟩
                rw [List.append_assoc]
                rcases m2 a z with z | z
                · exact List.mem_append_left _ z
                · exact List.mem_append_right _ (k3 a z)
          · cases hb
theorem evo_call {f : Nat} {es : List E} {e e2 : En} {r : Opd} (h : evo Φ T.G (.call f es) e = some (r, e2)) : ∃ os e1 ds d rs, evos Φ T.G es e = some (os, e1) ∧ resvs e1 os = some ds ∧ Φ f ds = some (d, rs) ∧ back os ds rs e1 = some e2 ∧ r = .tmp d := by
  simp only [evo] at h
  obtain ⟨⟨os, e1⟩, h1, h⟩ := bind_some h
  obtain ⟨ds, h2, h⟩ := bind_some h
  obtain ⟨⟨d, rs⟩, h3, h⟩ := bind_some h
  obtain ⟨e3, h4, h⟩ := bind_some h
  cases h
  exact ⟨os, e1, ds, d, rs, h1, h2, h3, h4, rfl⟩
theorem call_reads {f : Nat} {es : List E} {σ : L2.St} {H : Hp} {Q : VK} (E0 : XK) (h : tO X.K (evo Φ T.G (.call f es)) σ H Q) : tCall (spD X.K (Φ f)) [] E0 (tOs X.K (evos Φ T.G es)) σ H Q := by
  obtain ⟨e, F, o', e', he, n, hf, hQ⟩ := h
  obtain ⟨os, e1, ds, d, rs, h1, h2, h3, h4, rfl⟩ := evo_call hf
  refine ⟨e, F, os, e1, he, n, h1, fun vs H2 Fs F2 rp he2 n2 s2 => ?_⟩
  obtain ⟨Gs, R, g1, g2, g3, g4, g5⟩ := pass_ok (rs0 := []) rp he2 n2 h2 h4
  show spD X.K (Φ f) (vs ++ []) H2 Q E0
  rw [List.append_nil]
  refine ⟨ds, Gs, d, rs, g1, nd_left g2, h3, fun v H' Fd Fr r1 r2 n3 s3 => ?_⟩
  have kp := s3.keeps g1.mut
  have nR : ∀ a ∈ R, a ∉ Gs := fun a z y => nd_off g2 a y z
  have ap := s3.apart g4 nR
  have nFr : (Fr ++ R).Nodup := nd_mk (nd_right n3) (nd_right g2) fun a z y => ap a y (List.mem_append_right _ z)
  obtain ⟨F', k1, k2, k3⟩ := g5 H' Fr r2 kp (s3.off g4 nR) nFr
  refine hQ v H' Fd F' r1 k1 (nd_mk (nd_left n3) k2 fun a z y => ?_) ?_
  · rcases List.mem_append.mp (k3 a y) with y | y
    · exact nd_off n3 a z y
    · exact ap a y (List.mem_append_left _ z)
  · refine s2.trans ((s3.frame R).less g3 fun a z => ?_)
    rw [List.append_assoc]
    rcases List.mem_append.mp z with z | z
    · exact List.mem_append_left _ z
    · exact List.mem_append_right _ (k3 a z)
theorem snd_call {f n : Nat} {es : List E} {x : Str} {xs : List Expr} {p pos : Pos} (g : Good T Φ k sc X) (hg : glB sc x = true) (hf : T.fns[f]? = some (x, n)) (hst : xs.all notStar = true) (hs : PA X xs (tOs X.K (evos Φ T.G es))) (hl : es.length = xs.length) :
    PE X (.Call (.Name x p) xs [] pos) (tO X.K (evo Φ T.G (.call f es))) := by
  obtain ⟨g1, g2, g3⟩ := gl_of hg
  obtain ⟨fa, fd, ps, q1, q2, q3, q4, q5⟩ := g.fns f x n hf
  cases xs with
  | nil =>
    cases es with
    | cons _ _ => cases hl
    | nil =>
      refine PE.weak (pe_call0 (E := fun _ _ _ => False) q5 g.room (g.gl g1) q1 q2 q3 .nil (fun _ _ _ _ _ _ _ h => h.elim) g2) fun σ H Q h => ?_
      obtain ⟨e, F, o, e', he, n, hf, hQ⟩ := call_reads (fun _ _ _ => False) h
      simp only [evos, Option.some.injEq, Prod.mk.injEq] at hf
      obtain ⟨rfl, rfl⟩ := hf
      exact hQ [] H [] F .nil he n (Stp.refl H F)
  | cons y ys =>
    rw [List.all_cons, Bool.and_eq_true] at hst
    exact PE.weak (pe_call (E := fun _ _ _ => False) q5 g.room (g.gl g1) q1 q2 q3 .nil (fun _ _ _ _ _ _ _ h => h.elim) hs g2 (star_of hst.1 _ _) (stars_of hst.2)) fun σ H Q h => call_reads _ h
/-! ### a list that becomes data -/
theorem evo_frz {a : E} {e e2 : En} {r : Opd} (h : evo Φ T.G (.frz a) e = some (r, e2)) : ∃ x e1 p, evo Φ T.G a e = some (x, e1) ∧ frzSem x e1 = some (p, e2) ∧ r = .tmp (.imm p) := by
  simp only [evo] at h
  obtain ⟨⟨x, e1⟩, h1, h⟩ := bind_some h
  obtain ⟨⟨p, e3⟩, h2, h⟩ := bind_some h
  cases h
  exact ⟨x, e1, p, h1, h2, rfl⟩
theorem lock_stp {H : Hp} {F G : List Addr} {a : Addr} {o : HO} (ha : a ∈ F) (h : ∀ b ∈ G, b ∈ F) : Stp H F (upd H a o) G :=
  ⟨fun b o e z => by rw [upd_ne (fun y : b = a => z (by rw [y]; exact ha))]; exact e, fun b z => .inl (h b z)⟩
theorem snd_frz {a : E} {x : Expr} (ha : PE X x (tO X.K (evo Φ T.G a))) : PE X x (tO X.K (evo Φ T.G (.frz a))) := by
  refine ⟨fun pins s σ H Q I h => ?_⟩
  obtain ⟨e, F, o', e', he, n, hf, hQ⟩ := h
  obtain ⟨z, e1, p, h1, h2, rfl⟩ := evo_frz hf
  refine thn (ha.run pins s σ H (fun v H1 => ∃ Fd F1, ORep X.K H1 σ v z Fd ∧ EnvRep X.K H1 σ e1 F1 ∧ (Fd ++ F1).Nodup ∧ Stp H F H1 (Fd ++ F1)) I
    (tO_mk he n h1 fun v H1 Fd F1 ox he1 n1 s1 => ⟨Fd, F1, ox, he1, n1, s1⟩)) fun u s1 ⟨v, H1, I1, rv, Fd, F1, ox, he1, n1, st1⟩ => ?_
  unfold frzSem at h2
  split at h2
  · cases h2
    exact ⟨v, H1, I1, rv, hQ v H1 Fd F1 ox he1 n1 st1⟩
  · cases h2
    obtain ⟨b, vs, rfl, q1, q2, rfl⟩ := (show Rep X.K H1 v (.lst _) Fd from ox).lst_of
    obtain ⟨od, I2⟩ := I1.lock q1 trivial
    have st2 : Stp H1 ([b] ++ F1) (upd H1 b (.frz od (.lst vs))) F1 := lock_stp (List.mem_append_left _ (List.mem_singleton.mpr rfl)) fun c z => List.mem_append_right _ z
    have kp := st2.keeps (F := [b] ++ F1) ((Rep.mut (show Rep X.K H1 (.ref b) (.lst _) [b] from ox)).append he1.mut)
    refine ⟨_, _, I2, rv, hQ _ _ [] F1 (Rep.imm (.lst (.inl ⟨od, upd_same⟩) (q2.keep kp))) (he1.mono kp fun c z => upd_ne fun y => ?_) (nd_right n1) (st1.trans st2)⟩
    subst y
    exact nd_off n1 c (List.mem_singleton.mpr rfl) z
  · obtain ⟨hi, ef⟩ := (show σ[_]? = some (some v) ∧ Fd = [] from ox)
    subst ef
    split at h2
    · rename_i p' hp
      cases h2
      obtain ⟨v', Fi, w1, w2, _⟩ := he1.get hp
      rw [hi] at w1
      cases w1
      obtain ⟨w3, rfl⟩ := w2.imm_of
      exact ⟨v, H1, I1, rv, hQ v H1 [] F1 (Rep.imm w3) he1 n1 st1⟩
    · rename_i ps hp
      cases h2
      obtain ⟨v', Fi, F', w1, w2, w3, w4, w5⟩ := he1.out hp
      rw [hi] at w1
      cases w1
      obtain ⟨b, vs, rfl, q1, q2, rfl⟩ := w2.lst_of
      obtain ⟨od, I2⟩ := I1.lock q1 trivial
      have n5 := w5 n1
      have bF : b ∈ F1 := w4 b (List.mem_append_left _ (List.mem_singleton.mpr rfl))
      have st2 : Stp H1 F1 (upd H1 b (.frz od (.lst vs))) F' := lock_stp bF fun c z => w4 c (List.mem_append_right _ z)
      have kp := st2.keeps he1.mut
      have he2 : EnvRep X.K (upd H1 b (.frz od (.lst vs))) σ (e1.set _ none) F' := w3.mono kp fun c z => upd_ne fun y => by
        subst y
        exact nd_off n5 c (List.mem_singleton.mpr rfl) z
      have rp : Rep X.K (upd H1 b (.frz od (.lst vs))) (.ref b) (.imm (.lst ps)) [] := Rep.imm (.lst (.inl ⟨od, upd_same⟩) (q2.keep kp))
      obtain ⟨F2, k1, k2, k3⟩ := he2.into hi rp
      have nd2 : F2.Nodup := k3 (nd_right n5)
      have sub : ∀ c, c ∈ F2 → c ∈ F' := fun c z => (k2 c).mp z
      exact ⟨_, _, I2, rv, hQ _ _ [] F2 rp k1 nd2 (st1.trans (st2.less (fun c z => z) sub))⟩
    · cases h2
end
end Sw
set_option maxHeartbeats 1000000
/-! Sw, part 14c: enumerate and zip of lists, tuples, texts. -/
namespace Sw
open PySem PySem.Spec PyProof.Rows L2
/-- what is walked -/
inductive SK where
  | l (a : Addr) | t (a : Addr) | s (x : Str)
def SK.val : SK → V
  | .l a => .ref a
  | .t a => .ref a
  | .s x => .str x
def chV (x : Str) : List V := x.cps.toList.map fun c => V.str ⟨#[c]⟩
def SK.sq (K : PySem.W.Frag) (H : Hp) : SK → List V → Prop
  | .l a, xs => SqL K H a xs
  | .t a, xs => SqT K H a xs
  | .s x, xs => xs = chV x
def SK.fp : SK → List Addr
  | .l a => [a]
  | .t a => [a]
  | .s _ => []
def SK.st (h : Heap) (it : Addr) (i : Nat) : SK → Prop
  | .l a => h.IsListIter it a i
  | .t a => h.IsTupleIter it a i
  | .s x => ∃ t, h.IsStrIter it (strIterType x) x t i
theorem SK.st_at {k : SK} {h h' : Heap} {it : Addr} {i : Nat} (s : k.st h it i) (q : ∀ o, h.get? it = some o → h'.get? it = some o) : k.st h' it i := by
  cases k with
  | l a => exact Heap.IsListIter.at s q
  | t a => exact Heap.IsTupleIter.at s q
  | s x =>
    obtain ⟨t, o, ho, r⟩ := s
    exact ⟨t, o, q o ho, r⟩
theorem SK.st_obj {k : SK} {h : Heap} {it : Addr} {i : Nat} (s : k.st h it i) : ∃ o, h.get? it = some o ∧ ∀ v, o.data ≠ .cell v := by
  cases k with
  | l a => obtain ⟨o, ho, _, d⟩ := s; exact ⟨o, ho, fun v q => by rw [d] at q; cases q⟩
  | t a => obtain ⟨o, ho, _, d⟩ := s; exact ⟨o, ho, fun v q => by rw [d] at q; cases q⟩
  | s x => obtain ⟨t, o, ho, _, d⟩ := s; exact ⟨o, ho, fun v q => by rw [d] at q; cases q⟩
section
variable {X : Cx} {pins : List (Addr × Obj)} {σ : L2.St} {H : Hp} {s : Shared}
theorem SK.inj {k : SK} {xs ys : List V} (I : Inv X pins σ H s) (h : k.sq X.K H xs) (h' : k.sq X.K H ys) : xs = ys := by
  cases k with
  | l a => exact I.list_inj h h'
  | t a => exact I.tuple_inj h h'
  | s x => exact Eq.trans h (Eq.symm h')
theorem SK.dr (I : Inv X pins σ H s) (hc : X.calm = true) {k : SK} {xs : List V} {it : Addr} {i : Nat} (hsq : k.sq X.K H xs) (hat : k.st s.heap it i) (hf : it ∉ k.fp) :
    ∃ (n : Nat) (P : Nat → Value → Prop) (St : Nat → Heap → Prop), Draws X.prog X.w X.A.in1 it (it :: k.fp) n P St ∧ n = xs.length ∧ St i s.heap ∧ (∀ j v, P j v → ∃ x, xs[j]? = some x ∧ RelV x v) ∧ ∀ j h', St j h' → k.st h' it j := by
  have hh : X.A.in1.handled = none := I.ok.hd hc
  cases k with
  | l a =>
    obtain ⟨its, rv, p, hz⟩ := I.list hsq
    have hl := rv.length
    exact ⟨_, _, _, Draws.list hh it a (fun e => hf (by simp [SK.fp, e])) its.toArray, by simp [hl], ⟨hat, p.isList⟩, fun j v q => vals_at rv (by simpa using q), fun j h' q => q.1⟩
  | t a =>
    obtain ⟨its, rv, p, hz⟩ := I.tuple hsq
    have hl := rv.length
    exact ⟨_, _, _, Draws.tuple hh it a (fun e => hf (by simp [SK.fp, e])) its.toArray, by simp [hl], ⟨hat, p⟩, fun j v q => vals_at rv (by simpa using q), fun j h' q => q.1⟩
  | s x =>
    obtain ⟨t, hat⟩ := hat
    have hsq : xs = chV x := hsq
    refine ⟨_, _, _, Draws.text hh it x t, by rw [hsq]; simp [chV], hat, fun j v q => ?_, fun j h' q => ⟨t, q⟩⟩
    obtain ⟨c, u, h1, rfl⟩ := q
    refine ⟨.str ⟨#[c]⟩, ?_, u, rfl⟩
    rw [hsq]
    unfold chV
    rw [List.getElem?_map, Array.getElem?_toList, h1] <;> rfl
/-- how it begins -/
theorem SK.beg (I : Inv X pins σ H s) {k : SK} {xs : List V} {v : Value} (hsq : k.sq X.K H xs) (hv : RelV k.val v) : ∃ (o : Obj) (Hq : Heap → Prop), Begins v o Hq ∧ Hq s.heap ∧ (∀ a ∈ k.fp, a < s.heap.objs.size) ∧ ∀ h' it, h'.get? it = some o → k.st h' it 0 := by
  cases k with
  | l a =>
    have hv : v = .ref a := hv
    subst hv
    obtain ⟨its, rv, p, hz⟩ := I.list hsq
    refine ⟨_, _, begins_list a its.toArray, p.isList, fun b hb => ?_, fun h' it q => ⟨_, q, rfl, rfl⟩⟩
    have e : b = a := by simpa [SK.fp] using hb
    rw [e]
    exact p.lt
  | t a =>
    have hv : v = .ref a := hv
    subst hv
    obtain ⟨its, rv, p, hz⟩ := I.tuple hsq
    refine ⟨_, _, begins_tuple a its.toArray, p, fun b hb => ?_, fun h' it q => ⟨_, q, rfl, rfl⟩⟩
    have e : b = a := by simpa [SK.fp] using hb
    rw [e]
    exact p.lt
  | s x =>
    obtain ⟨t, rfl⟩ := hv
    refine ⟨_, _, begins_text x t, trivial, fun b hb => ?_, fun h' it q => ⟨t, _, q, rfl, rfl⟩⟩
    have hb : b ∈ ([] : List Addr) := hb
    cases hb
end
/-! ### enumerate -/
theorem new_enum_g {v : Value} {o : Obj} {Hq : Heap → Prop} (B : Begins v o Hq) :
    Meets (Builtin.«enumerate.__new__» ⟨[.type "enumerate", v], []⟩) (fun _ R s => Hq s.heap ∧
      R (.ok (.ret (.ref (s.heap.push o).objs.size))) { s with heap := (s.heap.push o).push { cls := .type "enumerate", data := .fields #[.none, .bool false, .ref s.heap.objs.size, rawInt 0, .none, .none] } }) :=
  .of_wp fun prog w A R s h => by
    obtain ⟨hp, g, d, tk, os⟩ := s
    obtain ⟨h1, h⟩ := h
    have sub0 := sub_enumerate
    have q1 : ∀ {A' : Around} {E : Value → Shared → Prop} {Q : Value → Shared → Prop}, Q (.ref hp.objs.size) ⟨hp.push o, g, d, tk, os⟩ → wpAny (model prog w) A' (pyIter v) Q E ⟨hp, g, d, tk, os⟩ :=
      fun q => B.iter prog w _ _ ⟨hp, g, d, tk, os⟩ _ h1 q
    wp_walk using q1
    refine wpAny_stack_any fun st => wpAny_pure ?_
    split
    · rename_i c _ _ _ _ _
      cases (c == Value.type "enumerate")
      · wp_walk using q1
        exact ⟨_, rfl, h⟩
      · wp_walk using q1
        exact ⟨_, rfl, h⟩
    · wp_walk using q1
      exact ⟨_, rfl, h⟩
section
variable {prog : Program} {w : World} {A : Around} {E : Value → Shared → Prop} {s : Shared}
theorem call_enum_g {v : Value} {o : Obj} {Hq : Heap → Prop} {Q : Value → Shared → Prop} (B : Begins v o Hq) (h1 : Hq s.heap)
    (h : ∀ h', IsEnum h' (s.heap.objs.size + 1) s.heap.objs.size 0 .none → h'.get? s.heap.objs.size = some o → h'.objs.size = s.heap.objs.size + 2 →
      (∀ b o, s.heap.get? b = some o → h'.get? b = some o) → Q (.ref (s.heap.objs.size + 1)) { s with heap := h' }) :
    wpAny (model prog w) A (call (.type "enumerate") [v]) Q E s := by
  refine callType_new F.called_enumerate (by decide) (F.typeCall_enumerate_1 _) (F.newCall_enumerate_1 _) (fun obj => F.args_object_init_2 obj _) F.entry_enumerate_new
    (new_enum_g B) ⟨h1, ?_⟩
  have hz : (s.heap.push o).objs.size = s.heap.objs.size + 1 := Heap.size_push ..
  show _ ∧ _
  rw [hz]
  have he : IsEnum ((s.heap.push o).push { cls := .type "enumerate", data := .fields #[.none, .bool false, .ref s.heap.objs.size, rawInt 0, .none, .none] }) (s.heap.objs.size + 1) s.heap.objs.size 0 .none := by
    have := Heap.get?_push_size (s.heap.push o) (o := { cls := .type "enumerate", data := .fields #[.none, .bool false, .ref s.heap.objs.size, rawInt 0, .none, .none] }) rfl
    rw [hz] at this; exact this
  refine ⟨⟨_, he, rfl⟩, h _ he (Heap.get?_push_of_some _ (Heap.get?_push_size _ B.free)) (by rw [Heap.size_push, hz]) fun b o x => Heap.get?_push_of_some _ (Heap.get?_push_of_some _ x)⟩
end
/-- each item in a new pair -/
def IteG (K : PySem.W.Frag) (k : SK) : It :=
  ⟨fun i H => ∃ (xs : List V) (x : V), k.sq K H xs ∧ xs[i]? = some x, fun i H v H' => ∃ T x, v = .ref T ∧ H T = none ∧ H' = upd H T (.tup [.int (i : Nat), x]) ∧ ∀ xs, k.sq K H xs → xs[i]? = some x, fun i H => ∃ xs : List V, k.sq K H xs ∧ xs.length = i⟩
theorem turn_enumG {P : Program} {w : World} {K : PySem.W.Frag} {elts : List Expr} {kk : Nat} {tpos : Pos} (k : SK) (e it : Addr) (hne : e ≠ it) (hef : e ∉ k.fp) (hif : it ∉ k.fp) :
    Turn P w K (.Tuple elts kk tpos) (IteG K k) [e, it] e (fun i h => (∃ old, IsEnum h e it ((i : Nat) : Int) old) ∧ k.st h it i) where
  mem := by simp
  obj := fun i h st b hb => by
    obtain ⟨⟨old, he⟩, st⟩ := st
    have e' : b = e ∨ b = it := by simpa using hb
    rcases e' with z | z
    · rw [z]; exact ⟨_, he, fun v q => nomatch q⟩
    · rw [z]; exact SK.st_obj st
  keep := fun i h h' st q => let ⟨⟨old, he⟩, hi⟩ := st; ⟨⟨old, q e (by simp) _ he⟩, SK.st_at hi fun o z => q it (by simp) o z⟩
  item := by
    intro X hP hw hK hc i pins s σ H E I hf st hg
    subst hP hw hK
    obtain ⟨⟨old, he⟩, hit⟩ := st
    obtain ⟨xs, x, hq, hx⟩ := hg
    obtain ⟨n, Pd, St, D, rfl, hst, hP, hS⟩ := SK.dr I hc hq hit hif
    have hel : e < s.heap.objs.size := Heap.lt_size he
    have hil : it < s.heap.objs.size := by obtain ⟨_, q, _⟩ := SK.st_obj hit; exact Heap.lt_size q
    have hlt : i < xs.length := (List.getElem?_eq_some_iff.mp hx).1
    refine wpAny_pyNext_enum_itemD D he hst hlt hne (by simp [hne, hef]) fun u h' tk hy ho hit' hT hsz hk => ?_
    obtain ⟨x', hx', ru⟩ := hP i u hy
    rw [hx] at hx'
    cases hx'
    refine ⟨_, rfl, wpAny_letOwnedTupleGo_enum (s := { s with heap := h', toks := tk + 1 }) ho fun h'' he' sb => ?_⟩
    have hT2 : h''.get? s.heap.objs.size = some { cls := .type "tuple", data := .seq #[.int i tk, u] } := (sb.2 _ (Nat.ne_of_gt hel)).trans hT
    have new : ObjOk X.prog X.w (upd H s.heap.objs.size (.tup [.int (i : Nat), x])) h'' s.heap.objs.size (.tup [.int (i : Nat), x]) :=
      ⟨by show 2 ≤ sizeLine; decide, [.int i tk, u], .cons ⟨_, rfl⟩ (.cons ru .nil), ⟨_, hT2, rfl, _, rfl⟩⟩
    have I1 : Inv X pins σ (upd H s.heap.objs.size (.tup [.int (i : Nat), x])) { s with heap := h'', toks := tk + 1 } :=
      I.turnedNew (ch := [e, it]) (fun b ob hb q => (sb.2 b (fun z => hb (by simp [z]))).trans (hk b ob (fun z => hb (by simp [z])) (fun z => hb (by simp [z])) q)) hf (Nat.le_refl _) new
    refine ⟨.ref s.heap.objs.size, _, I1, rfl, ⟨_, x, rfl, I.hok.fresh (Nat.le_refl _), rfl, fun ys hy => by rw [SK.inj I hy hq]; exact hx⟩, ⟨⟨u, ?_⟩, SK.st_at (hS _ _ hit') fun o q => (sb.2 it (Ne.symm hne)).trans q⟩, fun b hb => ?_⟩
    · have e1 : ((i + 1 : Nat) : Int) = (i : Int) + 1 := by omega
      rw [e1]; exact he'
    · have hb' : b < s.heap.objs.size := by
        have e' : b = e ∨ b = it := by simpa using hb
        rcases e' with z | z
        · rw [z]; exact hel
        · rw [z]; exact hil
      rw [upd_ne (Nat.ne_of_lt hb')]
      exact (hf b hb).1
  done := by
    intro X hP hw hK hc i pins s σ H E I hf st hg
    subst hP hw hK
    obtain ⟨⟨old, he⟩, hit⟩ := st
    obtain ⟨xs, hq, rfl⟩ := hg
    obtain ⟨n, Pd, St, D, rfl, hst, hP, hS⟩ := SK.dr I hc hq hit hif
    obtain ⟨f0, f1, f2, f3, f4, f5⟩ := hf it (by simp)
    refine wpAny_pyNext_enum_endD D he hst fun h' eb => ⟨rfl, I.turned (t' := s.toks) (fun b o hb q => eb b o hb q) f0 f1 f3 f4 f5⟩
  self := fun A i s Q E st h => let ⟨⟨_, he⟩, _⟩ := st; wpAny_pyIter_enum he h
def iEnumG (K : PySem.W.Frag) (ta : TA) : TI := fun σ H R => ta σ H fun vs H1 => ∃ k xs, vs = [SK.val k] ∧ k.sq K H1 xs ∧ R (IteG K k) H1
theorem pi_enumG {X : Cx} {e : Expr} {ta : TA} {p pos tpos : Pos} {elts : List Expr} {kk : Nat} (hg : Gl X "enumerate") (hm : X.mg "enumerate" = none) (ha : PA X [e] ta) (hs : starEach [e] X.env = [(false, eval e X.env)] := by rfl) :
    PI X (.Tuple elts kk tpos) (.Call (.Name "enumerate" p) [e] [] pos) (iEnumG X.K ta) := by
  refine ⟨fun pins s σ H R I h => ?_⟩
  refine Call_ (ld_blt I hg hm boot_enumerate (PyProof.Rows.callWith_type1 (thn (ha.run pos pins s σ H _ I h) fun us s1 ⟨vs, H1, I1, r1, q1⟩ => ?_) hs rfl))
  obtain ⟨k, xs, ex, hq, q⟩ := q1
  subst ex
  have fp : ∀ b ∈ [s1.heap.objs.size + 1, s1.heap.objs.size], FpOk X pins H1 b := fun b hb => by
    have e' : b = s1.heap.objs.size + 1 ∨ b = s1.heap.objs.size := by simpa using hb
    have hle : s1.heap.objs.size ≤ b := by
      rcases e' with z | z
      · rw [z]; exact Nat.le_add_right _ _
      · rw [z]; exact Nat.le_refl _
    exact I1.fpOk hle (I1.hok.fresh hle)
  cases r1 with
  | cons r rr =>
    cases rr
    obtain ⟨o, Hq, B, hH, hfp, hst⟩ := SK.beg I1 hq r
    refine call_enum_g B hH fun h' he hit hsz hk => wpAny_pyIter_enum he ?_
    have I2 : Inv X pins σ H1 { s1 with heap := h' } := I1.kept (t' := s1.toks) hk
    refine ⟨s1.heap.objs.size + 1, [s1.heap.objs.size + 1, s1.heap.objs.size], _, _, H1, rfl, I2, turn_enumG k (s1.heap.objs.size + 1) s1.heap.objs.size (Nat.succ_ne_self _) (fun z => ?_) (fun z => ?_), ⟨⟨.none, he⟩, hst _ _ hit⟩, fp, q⟩
    · have := hfp _ z
      exact absurd this (Nat.not_lt.mpr (Nat.le_add_right _ _))
    · exact absurd (hfp _ z) (Nat.lt_irrefl _)
/-! ### zip of two -/
def ItzG (K : PySem.W.Frag) (k1 k2 : SK) : It :=
  ⟨fun i H => ∃ (xs ys : List V) (x y : V), k1.sq K H xs ∧ k2.sq K H ys ∧ xs[i]? = some x ∧ ys[i]? = some y,
    fun i H v H' => ∃ T x y, v = .ref T ∧ H T = none ∧ H' = upd H T (.tup [x, y]) ∧ (∀ xs, k1.sq K H xs → xs[i]? = some x) ∧ ∀ ys, k2.sq K H ys → ys[i]? = some y,
    fun i H => ∃ xs ys : List V, k1.sq K H xs ∧ k2.sq K H ys ∧ i ≤ xs.length ∧ i ≤ ys.length ∧ (i = xs.length ∨ i = ys.length)⟩
theorem turn_zipG {P : Program} {w : World} {K : PySem.W.Frag} {elts : List Expr} {kk : Nat} {tpos : Pos} {k1 k2 : SK} {z TI TO i1 i2 : Addr} (S : ZipSep2 z TI TO i1 i2 (i1 :: k1.fp) (i2 :: k2.fp)) (hf1 : i1 ∉ k1.fp) (hf2 : i2 ∉ k2.fp) :
    Turn P w K (.Tuple elts kk tpos) (ItzG K k1 k2) [z, TI, TO, i1, i2] z (fun i h => IsZip h z TI TO .none ∧ IsTupOf2 h TI (.ref i1) (.ref i2) ∧ (∃ x y, IsTupOf2 h TO x y) ∧ k1.st h i1 i ∧ k2.st h i2 i) where
  mem := by simp
  obj := fun i h st c hc => by
    obtain ⟨hz, hTI, ⟨x, y, hTO⟩, h1, h2⟩ := st
    have e' : c = z ∨ c = TI ∨ c = TO ∨ c = i1 ∨ c = i2 := by simpa using hc
    rcases e' with q | q | q | q | q
    · rw [q]; exact ⟨_, hz, fun v q => nomatch q⟩
    · rw [q]; exact ⟨_, hTI, fun v q => nomatch q⟩
    · rw [q]; exact ⟨_, hTO, fun v q => nomatch q⟩
    · rw [q]; exact SK.st_obj h1
    · rw [q]; exact SK.st_obj h2
  keep := fun i h h' st k => by
    obtain ⟨hz, hTI, ⟨x, y, hTO⟩, h1, h2⟩ := st
    exact ⟨k z (by simp) _ hz, k TI (by simp) _ hTI, ⟨x, y, k TO (by simp) _ hTO⟩, SK.st_at h1 fun o q => k i1 (by simp) o q, SK.st_at h2 fun o q => k i2 (by simp) o q⟩
  item := by
    intro X hP hw hK hc i pins s σ H E I hf st hg
    subst hP hw hK
    obtain ⟨hz, hTI, ⟨x0, y0, hTO⟩, h1, h2⟩ := st
    obtain ⟨xs, ys, x, y, hqx, hqy, hx, hy⟩ := hg
    obtain ⟨n1, P1, St1, D1, rfl, hst1, hP1, hS1⟩ := SK.dr I hc hqx h1 hf1
    obtain ⟨n2, P2, St2, D2, rfl, hst2, hP2, hS2⟩ := SK.dr I hc hqy h2 hf2
    have hzl : z < s.heap.objs.size := Heap.lt_size hz
    refine wpAny_pyNext_zipD2_item S D1 D2 hz hTI hTO hst1 hst2 (List.getElem?_eq_some_iff.mp hx).1 (List.getElem?_eq_some_iff.mp hy).1 fun u u2 h' tk hu hu2 z' TO' h1' h2' hT hsz hk => ?_
    obtain ⟨x', hx', ru⟩ := hP1 i u hu
    rw [hx] at hx'
    cases hx'
    obtain ⟨y', hy', ru2⟩ := hP2 i u2 hu2
    rw [hy] at hy'
    cases hy'
    refine ⟨_, rfl, wpAny_letOwnedTupleGo_zip (s := { s with heap := h', toks := tk }) z' fun h'' z'' sb => ?_⟩
    have hT2 : h''.get? s.heap.objs.size = some { cls := .type "tuple", data := .seq #[u, u2] } := (sb.2 _ (Nat.ne_of_gt hzl)).trans hT
    have new : ObjOk X.prog X.w (upd H s.heap.objs.size (.tup [x, y])) h'' s.heap.objs.size (.tup [x, y]) :=
      ⟨by show 2 ≤ sizeLine; decide, [u, u2], .cons ru (.cons ru2 .nil), ⟨_, hT2, rfl, _, rfl⟩⟩
    have I1 : Inv X pins σ (upd H s.heap.objs.size (.tup [x, y])) { s with heap := h'', toks := tk } :=
      I.turnedNew (ch := [z, TI, TO, i1, i2]) (fun c o hb q => (sb.2 c (fun q' => hb (by simp [q']))).trans (hk c o (fun q' => hb (by simp [q'])) (fun q' => hb (by simp [q'])) (fun q' => hb (by simp [q'])) (fun q' => hb (by simp [q'])) q)) hf (Nat.le_refl _) new
    refine ⟨.ref s.heap.objs.size, _, I1, rfl, ⟨_, x, y, rfl, I.hok.fresh (Nat.le_refl _), rfl, fun l hl => by rw [SK.inj I hl hqx]; exact hx, fun l hl => by rw [SK.inj I hl hqy]; exact hy⟩, ⟨z'', ?_, ⟨u, u2, ?_⟩, ?_, ?_⟩, fun c hcm => ?_⟩
    · exact (sb.2 _ S.TIz).trans (hk _ _ S.TIz S.TITO S.TIi1 S.TIi2 hTI)
    · exact (sb.2 _ S.TOz).trans TO'
    · exact SK.st_at (hS1 _ _ h1') fun o q => (sb.2 _ (Ne.symm S.zi1)).trans q
    · exact SK.st_at (hS2 _ _ h2') fun o q => (sb.2 _ (Ne.symm S.zi2)).trans q
    · have hlt : c < s.heap.objs.size := by
        have e' : c = z ∨ c = TI ∨ c = TO ∨ c = i1 ∨ c = i2 := by simpa using hcm
        rcases e' with q | q | q | q | q
        · rw [q]; exact hzl
        · rw [q]; exact Heap.lt_size hTI
        · rw [q]; exact Heap.lt_size hTO
        · rw [q]; obtain ⟨_, e1, _⟩ := SK.st_obj h1; exact Heap.lt_size e1
        · rw [q]; obtain ⟨_, e2, _⟩ := SK.st_obj h2; exact Heap.lt_size e2
      rw [upd_ne (Nat.ne_of_lt hlt)]
      exact (hf c hcm).1
  done := by
    intro X hP hw hK hc i pins s σ H E I hf st hg
    subst hP hw hK
    obtain ⟨hz, hTI, ⟨x0, y0, hTO⟩, h1, h2⟩ := st
    obtain ⟨xs, ys, hqx, hqy, l1, l2, hend⟩ := hg
    obtain ⟨n1, P1, St1, D1, rfl, hst1, hP1, hS1⟩ := SK.dr I hc hqx h1 hf1
    obtain ⟨n2, P2, St2, D2, rfl, hst2, hP2, hS2⟩ := SK.dr I hc hqy h2 hf2
    exact wpAny_pyNext_zipD2_end S D1 D2 hz hTI hTO hst1 hst2 l1 l2 hend fun h' tk hk => ⟨rfl, I.turnedL (t' := tk) (ch := [z, TI, TO, i1, i2]) (fun c o hb q =>
      hk c o (fun q' => hb (by simp [q'])) (fun q' => hb (by simp [q'])) (fun q' => hb (by simp [q'])) (fun q' => hb (by simp [q'])) q) hf⟩
  self := fun A i s Q E st h => wpAny_pyIter_zip st.1 h
def iZipG (K : PySem.W.Frag) (ta : TA) : TI := fun σ H R => ta σ H fun vs H1 => ∃ k1 k2 xs ys, vs = [SK.val k1, SK.val k2] ∧ k1.sq K H1 xs ∧ k2.sq K H1 ys ∧ R (ItzG K k1 k2) H1
theorem pi_zipG {X : Cx} {e e2 : Expr} {ta : TA} {p pos tpos : Pos} {elts : List Expr} {kk : Nat} (hg : Gl X "zip") (hm : X.mg "zip" = none) (ha : PA X [e, e2] ta)
    (hs : starEach [e, e2] X.env = (false, eval e X.env) :: starEach [e2] X.env := by rfl) (hpl : (backTo pos (starEach [e2] X.env)).any (·.1) = false := by rfl) :
    PI X (.Tuple elts kk tpos) (.Call (.Name "zip" p) [e, e2] [] pos) (iZipG X.K ta) := by
  refine ⟨fun pins s σ H R I h => ?_⟩
  refine Call_ (ld_blt I hg hm PyProof.Rows.boot_zip (PyProof.Rows.callWith_type1 (thn (ha.run pos pins s σ H _ I h) fun us s1 ⟨vs, H1, I1, r1, q1⟩ => ?_) hs hpl))
  obtain ⟨k1, k2, xs, ys, ex, hqx, hqy, q⟩ := q1
  subst ex
  cases r1 with
  | cons r rr =>
    cases rr with
    | cons r' rr =>
      cases rr
      have fresh5 : ∀ c, c ∈ [s1.heap.objs.size + 4, s1.heap.objs.size + 2, s1.heap.objs.size + 3, s1.heap.objs.size, s1.heap.objs.size + 1] → FpOk X pins H1 c := fun c hcm => by
        have e' : c = s1.heap.objs.size + 4 ∨ c = s1.heap.objs.size + 2 ∨ c = s1.heap.objs.size + 3 ∨ c = s1.heap.objs.size ∨ c = s1.heap.objs.size + 1 := by simpa using hcm
        have hle : s1.heap.objs.size ≤ c := by
          rcases e' with z | z | z | z | z
          · rw [z]; exact Nat.le_add_right _ _
          · rw [z]; exact Nat.le_add_right _ _
          · rw [z]; exact Nat.le_add_right _ _
          · rw [z]; exact Nat.le_refl _
          · rw [z]; exact Nat.le_add_right _ _
        exact I1.fpOk hle (I1.hok.fresh hle)
      obtain ⟨o1, Hq1, B1, hH1, hfp1, hst1⟩ := SK.beg I1 hqx r
      obtain ⟨o2, Hq2, B2, hH2, hfp2, hst2⟩ := SK.beg I1 hqy r'
      refine zip_begins2 B1 B2 hH1 hH2 fun h' hz hTI hTO h1 h2 hsz hk => wpAny_pyIter_zip hz ?_
      have I2 : Inv X pins σ H1 { s1 with heap := h' } := I1.kept (t' := s1.toks) hk
      refine ⟨s1.heap.objs.size + 4, [s1.heap.objs.size + 4, s1.heap.objs.size + 2, s1.heap.objs.size + 3, s1.heap.objs.size, s1.heap.objs.size + 1], _, _, H1, rfl, I2, turn_zipG (zip_sep2 hfp1 hfp2) (fun z => absurd (hfp1 _ z) (Nat.lt_irrefl _)) (fun z => absurd (hfp2 _ z) (Nat.not_lt.mpr (Nat.le_add_right _ _))), ⟨hz, hTI, ⟨_, _, hTO⟩, hst1 _ _ h1, hst2 _ _ h2⟩, fresh5, q⟩
end Sw
set_option maxHeartbeats 1000000
/-! Sw, part 15: what is walked. -/
namespace Sw
open PySem PySem.Spec PyProof.Rows L2
/-- what the turns give -/
def YP (K : PySem.W.Frag) (ps : List P) : Nat → Hp → V → Hp → Prop := fun i H x H' => Same H H' ∧ ∃ p, ps[i]? = some p ∧ PRep K H' x p
def tI (K : PySem.W.Frag) (k : IK) (f : M (List Opd)) : TI := fun σ H R => ∃ e F os e' ds ps, EnvRep K H σ e F ∧ F.Nodup ∧ f e = some (os, e') ∧ resvs e' os = some ds ∧ items k ds = some ps ∧
  ∀ J vs H' Fd F', ORs K H' σ vs os Fd → EnvRep K H' σ e' F' → (Fd ++ F').Nodup → Stp H F H' (Fd ++ F') → Walk J ps.length (fun H => PkAll K H vs ds) (YP K ps) → R J H'
theorem pk_list {K : PySem.W.Frag} {H : Hp} {v : V} {d : D} {ps : List P} (h : listOf d = some ps) {F : List Addr} (r : Rep K H v d F) : ∃ a xs, v = .ref a ∧ SqL K H a xs ∧ PReps K H xs ps := by
  unfold listOf at h
  split at h
  · cases h; obtain ⟨a, xs, rfl, h, q⟩ := r.flst_of; exact ⟨a, xs, rfl, h.sql, q⟩
  · cases h; obtain ⟨a, xs, rfl, h, q, _⟩ := r.lst_of; exact ⟨a, xs, rfl, SqL.of h, q⟩
  · cases h
section
variable {K : PySem.W.Frag} {a b : Addr} {d d2 : D} {ps qs : List P}
theorem pk_list1 (h : listOf d = some ps) {H : Hp} (pk : PkAll K H [.ref a] [d]) : ∃ xs, SqL K H a xs ∧ PReps K H xs ps := by
  obtain ⟨v, F, e, r⟩ := pk.one
  cases e
  obtain ⟨a', xs, e, q1, q2⟩ := pk_list h r
  cases e
  exact ⟨xs, q1, q2⟩
theorem pk_tup1 {H : Hp} (pk : PkAll K H [.ref a] [.imm (.tup ps)]) : ∃ xs, SqT K H a xs ∧ PReps K H xs ps := by
  obtain ⟨v, F, e, r⟩ := pk.one
  cases e
  obtain ⟨a', xs, e, q1, q2⟩ := r.tup_of
  cases e
  exact ⟨xs, q1, q2⟩
theorem walkP_list (h : listOf d = some ps) : Walk (Itl K a) ps.length (fun H => PkAll K H [.ref a] [d]) (YP K ps) := by
  refine ⟨fun i H hi pk => ?_, fun H pk => ?_, fun i H x H' hi pk y => ?_⟩
  · obtain ⟨xs, q1, q2⟩ := pk_list1 h pk
    have hl := q2.length
    exact ⟨xs, xs[i]'(by omega), q1, by simp⟩
  · obtain ⟨xs, q1, q2⟩ := pk_list1 h pk
    exact ⟨xs, q1, by rw [q2.length]; exact Nat.le_refl _⟩
  · obtain ⟨xs, q1, q2⟩ := pk_list1 h pk
    obtain ⟨rfl, y⟩ := y
    obtain ⟨p, h1, h2⟩ := q2.getV (y xs q1)
    exact ⟨fun _ _ e => e, p, h1, h2⟩
theorem walkP_tup : Walk (Itt K a) ps.length (fun H => PkAll K H [.ref a] [.imm (.tup ps)]) (YP K ps) := by
  refine ⟨fun i H hi pk => ?_, fun H pk => ?_, fun i H x H' hi pk y => ?_⟩
  · obtain ⟨xs, q1, q2⟩ := pk_tup1 pk
    have hl := q2.length
    exact ⟨xs, xs[i]'(by omega), q1, by simp⟩
  · obtain ⟨xs, q1, q2⟩ := pk_tup1 pk
    exact ⟨xs, q1, by rw [q2.length]; exact Nat.le_refl _⟩
  · obtain ⟨xs, q1, q2⟩ := pk_tup1 pk
    obtain ⟨rfl, y⟩ := y
    obtain ⟨p, h1, h2⟩ := q2.getV (y xs q1)
    exact ⟨fun _ _ e => e, p, h1, h2⟩
theorem walkP_str {s : List Nat} : Walk (Its (sOf s)) (s.map fun c => P.str [c]).length (fun H => PkAll K H [.str (sOf s)] [.imm (.str s)]) (YP K (s.map fun c => P.str [c])) := by
  refine ⟨fun i H hi pk => ?_, fun H pk => ?_, fun i H x H' hi pk y => ?_⟩
  · rw [List.length_map] at hi
    show i < (sOf s).cps.size
    simpa [sOf] using hi
  · rw [List.length_map]
    show (sOf s).cps.size ≤ _
    simp [sOf]
  · obtain ⟨rfl, c, h1, rfl⟩ := y
    obtain ⟨v, F, e, r⟩ := pk.one
    obtain ⟨_, ok⟩ := r.str_of
    have h1 : s[i]? = some c := by simpa [sOf] using h1
    refine ⟨fun _ _ e => e, .str [c], by rw [List.getElem?_map, h1]; rfl, ?_⟩
    refine .str [c] ?_
    unfold chrOk at ok ⊢
    rw [List.all_cons, List.all_nil, Bool.and_true]
    exact List.all_eq_true.mp ok c (List.mem_of_getElem? h1)
theorem walkP_rng {G : Hp → Prop} {lo : Int} {n : Nat} : Walk (Itr lo n) ((List.range n).map fun k : Nat => P.int (lo + (k : Int))).length G (YP K ((List.range n).map fun k : Nat => P.int (lo + (k : Int)))) := by
  rw [List.length_map, List.length_range]
  refine ⟨fun i H hi _ => hi, fun H _ => Nat.le_refl _, fun i H x H' hi _ y => ?_⟩
  obtain ⟨rfl, rfl⟩ := y
  exact ⟨fun _ _ e => e, .int (lo + i), by rw [List.getElem?_map, List.getElem?_range hi]; rfl, .int _⟩
theorem walkP_rngD {G : Hp → Prop} {lo : Int} {n : Nat} : Walk (Itc lo (-1) n) ((List.range n).map fun k : Nat => P.int (lo - (k : Int))).length G (YP K ((List.range n).map fun k : Nat => P.int (lo - (k : Int)))) := by
  rw [List.length_map, List.length_range]
  refine ⟨fun i H hi _ => hi, fun H _ => Nat.le_refl _, fun i H x H' hi _ y => ?_⟩
  obtain ⟨rfl, rfl⟩ := y
  refine ⟨fun _ _ e => e, .int (lo - i), by rw [List.getElem?_map, List.getElem?_range hi]; rfl, ?_⟩
  rw [show lo + (i : Nat) * (-1 : Int) = lo - i by omega]
  exact .int _
theorem pair_rep {H : Hp} {T : Addr} {x y : V} {p q : P} (hT : H T = none) (h1 : PRep K H x p) (h2 : PRep K H y q) : PRep K (upd H T (.tup [x, y])) (.ref T) (.tup [p, q]) :=
  .tup (SqT.of upd_same) (.cons (h1.keep (Keeps.of_same (same_new hT))) (.cons (h2.keep (Keeps.of_same (same_new hT))) .nil))
/-- which kind a value is -/
def KD : SK → D → Prop
  | .l _, d => ∃ ps, listOf d = some ps
  | .t _, d => ∃ ps, d = .imm (.tup ps)
  | .s x, d => ∃ s, x = sOf s ∧ d = .imm (.str s)
theorem chV_reps {H : Hp} : ∀ {s : List Nat}, chrOk s = true → PReps K H (s.map fun c => V.str ⟨#[c]⟩) (s.map fun c => P.str [c])
  | [], _ => .nil
  | c :: s, h => by
    unfold chrOk at h
    rw [List.all_cons, Bool.and_eq_true] at h
    refine .cons (.str [c] ?_) (chV_reps h.2)
    unfold chrOk
    rw [List.all_cons, List.all_nil, Bool.and_true]
    exact h.1
theorem rep_sk {H : Hp} {v : V} {F : List Addr} (r : Rep K H v d F) (h : elems d = some ps) : ∃ k, v = SK.val k ∧ KD k d := by
  cases d with
  | lst qs =>
    obtain ⟨a, xs, rfl, _⟩ := r.lst_of
    exact ⟨.l a, rfl, qs, rfl⟩
  | imm p =>
    cases p with
    | tup qs =>
      obtain ⟨a, xs, rfl, _⟩ := r.tup_of
      exact ⟨.t a, rfl, qs, rfl⟩
    | lst qs =>
      obtain ⟨a, xs, rfl, _⟩ := r.flst_of
      exact ⟨.l a, rfl, qs, rfl⟩
    | str s =>
      obtain ⟨rfl, _⟩ := r.str_of
      exact ⟨.s (sOf s), rfl, s, rfl, rfl⟩
    | _ => cases h
theorem sk_rep {H : Hp} {k : SK} {F : List Addr} (q : KD k d) (r : Rep K H k.val d F) (h : elems d = some ps) : ∃ xs, k.sq K H xs ∧ PReps K H xs ps := by
  cases k with
  | l a =>
    obtain ⟨qs, hq⟩ := q
    have e : qs = ps := by
      cases d with
      | lst _ => cases hq; cases h; rfl
      | imm p => cases p <;> first | (cases hq; cases h; rfl) | cases hq
    subst e
    obtain ⟨a', xs, e, q1, q2⟩ := pk_list hq r
    cases e
    exact ⟨xs, q1, q2⟩
  | t a =>
    obtain ⟨qs, rfl⟩ := q
    cases h
    obtain ⟨a', xs, e, q1, q2⟩ := r.tup_of
    cases e
    exact ⟨xs, q1, q2⟩
  | s x =>
    obtain ⟨s, rfl, rfl⟩ := q
    cases h
    obtain ⟨_, c⟩ := r.str_of
    refine ⟨chV (sOf s), rfl, ?_⟩
    unfold chV
    rw [sOf_cps]
    exact chV_reps c
theorem walkP_enum {k : SK} (q : KD k d) (h : elems d = some ps) : Walk (IteG K k) (ps.zipIdx.map fun q => P.tup [.int (q.2 : Int), q.1]).length (fun H => PkAll K H [k.val] [d]) (YP K (ps.zipIdx.map fun q => P.tup [.int (q.2 : Int), q.1])) := by
  have one : ∀ {H : Hp}, PkAll K H [k.val] [d] → ∃ xs, k.sq K H xs ∧ PReps K H xs ps := fun {H} pk => by
    obtain ⟨v, F, e, r⟩ := pk.one
    cases e
    exact sk_rep q r h
  rw [List.length_map, List.length_zipIdx]
  refine ⟨fun i H hi pk => ?_, fun H pk => ?_, fun i H x H' hi pk y => ?_⟩
  · obtain ⟨xs, q1, q2⟩ := one pk
    have hl := q2.length
    exact ⟨xs, xs[i]'(by omega), q1, by simp⟩
  · obtain ⟨xs, q1, q2⟩ := one pk
    exact ⟨xs, q1, q2.length⟩
  · obtain ⟨xs, q1, q2⟩ := one pk
    obtain ⟨T, x, rfl, hT, rfl, y⟩ := y
    obtain ⟨p, h1, h2⟩ := q2.getV (y xs q1)
    exact ⟨same_new hT, .tup [.int (i : Int), p], by rw [List.getElem?_map, List.getElem?_zipIdx, h1]; simp, pair_rep hT (.int _) h2⟩
theorem get_zip {α β : Type} {xs : List α} {ys : List β} {i : Nat} {x : α} {y : β} (h1 : xs[i]? = some x) (h2 : ys[i]? = some y) : (xs.zip ys)[i]? = some (x, y) := by
  rw [List.getElem?_zip_eq_some]
  exact ⟨h1, h2⟩
theorem walkP_zip {k1 k2 : SK} (g1 : KD k1 d) (g2 : KD k2 d2) (h : elems d = some ps) (h' : elems d2 = some qs) : Walk (ItzG K k1 k2) ((ps.zip qs).map fun q => P.tup [q.1, q.2]).length (fun H => PkAll K H [k1.val, k2.val] [d, d2]) (YP K ((ps.zip qs).map fun q => P.tup [q.1, q.2])) := by
  have two : ∀ {H : Hp}, PkAll K H [k1.val, k2.val] [d, d2] → (∃ xs, k1.sq K H xs ∧ PReps K H xs ps) ∧ ∃ ys, k2.sq K H ys ∧ PReps K H ys qs := fun {H} pk => by
    obtain ⟨v, u, F, G, e, r, r'⟩ := pk.two
    cases e
    exact ⟨sk_rep g1 r h, sk_rep g2 r' h'⟩
  rw [List.length_map, List.length_zip]
  refine ⟨fun i H hi pk => ?_, fun H pk => ?_, fun i H x H' hi pk y => ?_⟩
  · obtain ⟨⟨xs, q1, q2⟩, ys, q3, q4⟩ := two pk
    have hl := q2.length
    have hl2 := q4.length
    exact ⟨xs, ys, xs[i]'(by omega), ys[i]'(by omega), q1, q3, by simp, by simp⟩
  · obtain ⟨⟨xs, q1, q2⟩, ys, q3, q4⟩ := two pk
    have hl := q2.length
    have hl2 := q4.length
    exact ⟨xs, ys, q1, q3, by omega, by omega, by omega⟩
  · obtain ⟨⟨xs, q1, q2⟩, ys, q3, q4⟩ := two pk
    obtain ⟨T, x, z, rfl, hT, rfl, y1, y2⟩ := y
    obtain ⟨p, h1, h2⟩ := q2.getV (y1 xs q1)
    obtain ⟨q, h3, h4⟩ := q4.getV (y2 ys q3)
    exact ⟨same_new hT, .tup [p, q], by rw [List.getElem?_map, get_zip h1 h3]; rfl, pair_rep hT h2 h4⟩
end
section
variable {T : Tab} {Φ : CallS} {k : Nat} {sc : Scope} {X : Cx} {tg : Expr}
theorem chkEs_cons {a : E} {as : List E} {xs : List Expr} (h : chkEs T sc (a :: as) xs = true) : ∃ y ys, xs = y :: ys ∧ notStar y = true ∧ chkE T sc a y = true ∧ chkEs T sc as ys = true := by
  cases xs with
  | nil => simp only [chkEs] at h; cases h
  | cons y ys =>
    simp only [chkEs, Bool.and_eq_true] at h
    exact ⟨y, ys, rfl, h.1.1, h.1.2, h.2⟩
theorem chkEs_nil {xs : List Expr} (h : chkEs T sc [] xs = true) : xs = [] := by
  cases xs with
  | nil => rfl
  | cons y ys => simp only [chkEs] at h; cases h
theorem chkEs_star : ∀ {as : List E} {xs : List Expr}, chkEs T sc as xs = true → xs.all notStar = true
  | [], xs, h => by rw [chkEs_nil h]; rfl
  | a :: as, xs, h => by
    obtain ⟨y, ys, rfl, h1, _, h3⟩ := chkEs_cons h
    rw [List.all_cons, h1, chkEs_star h3] <;> rfl
theorem chkEs_len : ∀ {as : List E} {xs : List Expr}, chkEs T sc as xs = true → as.length = xs.length
  | [], xs, h => by rw [chkEs_nil h] <;> rfl
  | a :: as, xs, h => by
    obtain ⟨y, ys, rfl, _, _, h3⟩ := chkEs_cons h
    rw [List.length_cons, List.length_cons, chkEs_len h3]
theorem ORs.one_ref {K : PySem.W.Frag} {H : Hp} {σ : L2.St} {v : V} {x : Opd} {Fs : List Addr} (h : ORep K H σ v x Fs) : ORs K H σ [v] [x] Fs := by
  have := ORs.cons h .nil
  rwa [List.append_nil] at this
theorem elems_cases {d : D} {ps : List P} (h : elems d = some ps) : d = .imm (.tup ps) ∨ listOf d = some ps ∨ ∃ s, d = .imm (.str s) ∧ ps = s.map fun c => .str [c] := by
  unfold elems at h
  split at h
  · cases h; exact .inl rfl
  · cases h; exact .inr (.inl rfl)
  · cases h; exact .inr (.inr ⟨_, rfl, rfl⟩)
  · cases h; exact .inr (.inl rfl)
  · cases h
theorem snd_iseq {a : E} {x : Expr} (ha : PE X x (tO X.K (evo Φ T.G a))) : PI X tg x (tI X.K .seq (evos Φ T.G [a])) := by
  refine ⟨fun pins s σ H R I h => ?_⟩
  obtain ⟨e, F, os, e', ds, ps, he, n, hf, hr, hi, hR⟩ := h
  obtain ⟨y, h1, rfl⟩ := evos_one hf
  simp only [resvs] at hr
  obtain ⟨d, hr1, h2⟩ := bind_some hr
  simp only [Option.bind_some] at h2
  cases h2
  clear hr
  have hi : elems d = some ps := hi
  rcases elems_cases hi with rfl | hl | ⟨s', rfl, rfl⟩
  · refine (pi_tup ha).run pins s σ H R I (tO_mk he n h1 fun v H1 Fd F1 ox he1 n1 s1 => ?_)
    obtain ⟨F0, r0⟩ := resv_ok he1 ox hr1
    obtain ⟨b, xs, rfl, q1, q2⟩ := r0.tup_of
    exact ⟨b, rfl, ⟨xs, q1⟩, hR _ _ _ Fd F1 (ORs.one_ref ox) he1 n1 s1 walkP_tup⟩
  · refine (pi_list ha).run pins s σ H R I (tO_mk he n h1 fun v H1 Fd F1 ox he1 n1 s1 => ?_)
    obtain ⟨F0, r0⟩ := resv_ok he1 ox hr1
    obtain ⟨b, xs, rfl, q1, q2⟩ := pk_list hl r0
    exact ⟨b, rfl, ⟨xs, q1⟩, hR _ _ _ Fd F1 (ORs.one_ref ox) he1 n1 s1 (walkP_list hl)⟩
  · refine (pi_str ha).run pins s σ H R I (tO_mk he n h1 fun v H1 Fd F1 ox he1 n1 s1 => ?_)
    obtain ⟨F0, r0⟩ := resv_ok he1 ox hr1
    obtain ⟨rfl, ok⟩ := r0.str_of
    exact ⟨_, rfl, hR _ _ _ Fd F1 (ORs.one_ref ox) he1 n1 s1 walkP_str⟩
theorem ints_one {ds : List D} {ps : List P} (h : items .rng1 ds = some ps) : ∃ j : Int, ds = [.imm (.int j)] ∧ (-(2 ^ 62) ≤ j ∧ j < 2 ^ 62) ∧ ps = (List.range j.toNat).map fun k : Nat => P.int (k : Int) := by
  unfold items at h
  split at h
  all_goals first
    | (rename_i e _; cases e; done)
    | (rename_i e; cases e; done)
    | skip
  all_goals first
    | (cases h; done)
    | skip
  all_goals
    split at h
    · rename_i c
      cases h
      unfold small62 at c
      exact ⟨_, rfl, of_decide_eq_true c, rfl⟩
    · cases h
theorem ints_two {ds : List D} {ps : List P} (h : items .rng2 ds = some ps) : ∃ i j : Int, ds = [.imm (.int i), .imm (.int j)] ∧ (-(2 ^ 62) ≤ i ∧ i < 2 ^ 62 ∧ -(2 ^ 62) ≤ j ∧ j < 2 ^ 62) ∧ ps = (List.range (j - i).toNat).map fun k : Nat => P.int (i + (k : Int)) := by
  unfold items at h
  split at h
  all_goals first
    | (rename_i e _; cases e; done)
    | (rename_i e; cases e; done)
    | skip
  all_goals first
    | (cases h; done)
    | skip
  all_goals
    split at h
    · rename_i c
      cases h
      rw [Bool.and_eq_true] at c
      unfold small62 at c
      have c1 := of_decide_eq_true c.1
      have c2 := of_decide_eq_true c.2
      exact ⟨_, _, rfl, ⟨c1.1, c1.2, c2.1, c2.2⟩, rfl⟩
    · cases h
theorem ints_three {ds : List D} {ps : List P} (h : items .rng3 ds = some ps) : ∃ i j : Int, ds = [.imm (.int i), .imm (.int j), .imm (.int (-1))] ∧ (-(2 ^ 62) ≤ i ∧ i < 2 ^ 62 ∧ -(2 ^ 62) ≤ j ∧ j < 2 ^ 62) ∧ ps = (List.range (i - j).toNat).map fun k : Nat => P.int (i - (k : Int)) := by
  unfold items at h
  split at h
  all_goals first
    | (rename_i e _; cases e; done)
    | (rename_i e; cases e; done)
    | skip
  all_goals first
    | (cases h; done)
    | skip
  all_goals
    split at h
    · rename_i c
      cases h
      rw [Bool.and_eq_true, Bool.and_eq_true] at c
      unfold small62 at c
      have c1 := of_decide_eq_true c.1.1
      have c2 := of_decide_eq_true c.1.2
      have c3 := of_decide_eq_true c.2
      subst c3
      exact ⟨_, _, rfl, ⟨c1.1, c1.2, c2.1, c2.2⟩, rfl⟩
    · cases h
theorem enum_of {ds : List D} {ps : List P} (h : items .enum ds = some ps) : ∃ d qs, ds = [d] ∧ elems d = some qs ∧ ps = qs.zipIdx.map fun q => P.tup [.int (q.2 : Int), q.1] := by
  match ds, h with
  | [x], h =>
    have h : (elems x).map _ = some ps := h
    cases q : elems x with
    | none => rw [q] at h; cases h
    | some qs => rw [q] at h; cases h; exact ⟨x, qs, rfl, q, rfl⟩
theorem zip_of {ds : List D} {ps : List P} (h : items .zip ds = some ps) : ∃ d d2 qs rs, ds = [d, d2] ∧ ps = (qs.zip rs).map (fun q => P.tup [q.1, q.2]) ∧ elems d = some qs ∧ elems d2 = some rs := by
  match ds, h with
  | [x, y], h =>
    obtain ⟨qs, h1, h2⟩ := bind_some (show zipSem x y = some ps from h)
    obtain ⟨rs, h3, h4⟩ := bind_some h2
    cases h4
    exact ⟨x, y, qs, rs, rfl, rfl, h1, h3⟩
theorem two_ds {K : PySem.W.Frag} {H : Hp} {vs : List V} {d d2 : D} (pk : PkAll K H vs [d, d2]) : ∃ v u F G, vs = [v, u] ∧ Rep K H v d F ∧ Rep K H u d2 G := by
  cases pk with
  | cons r t =>
    obtain ⟨F, r⟩ := r
    obtain ⟨u, G, rfl, q⟩ := t.one
    exact ⟨_, u, F, G, rfl, r, q⟩
theorem snd_I {ik : IK} {as : List E} {x : Expr} (g : Good T Φ k sc X) (h : chkI sc (isTup tg) ik (fun xs => chkEs T sc as xs) x = true)
    (hE : ∀ a x, as = [a] → chkE T sc a x = true → PE X x (tO X.K (evo Φ T.G a))) (hA : ∀ xs, chkEs T sc as xs = true → PA X xs (tOs X.K (evos Φ T.G as))) : PI X tg x (tI X.K ik (evos Φ T.G as)) := by
  cases ik with
  | seq =>
    have h := (Bool.and_eq_true _ _).mp h
    cases as with
    | nil => have := chkEs_len h.2; cases this
    | cons a as =>
      obtain ⟨y, ys, e, _, h2, h3⟩ := chkEs_cons h.2
      cases e
      cases as with
      | nil => exact snd_iseq (hE a _ rfl h2)
      | cons _ _ => have := chkEs_len h3; cases this
  | rng1 =>
    obtain ⟨p, args, pos, rfl, hg, hs, hn2⟩ := chkC_of (y := "range") (n := 1) h
    obtain ⟨g1, g2, g3⟩ := gl_of hg
    have stars := chkEs_star hs
    match args, hn2, stars, hs with
    | [y], _, stars, hs =>
      simp only [List.all_cons, List.all_nil, Bool.and_true] at stars
      refine ⟨fun pins s σ H R I h => (pi_range1 (g.gl g1) (g.blt _ (by decide)) (hA _ hs) (star_of stars _ _)).run pins s σ H R I ?_⟩
      obtain ⟨e, F, os, e', ds, ps, he, n, hf, hr, hi, hR⟩ := h
      refine ⟨e, F, os, e', he, n, hf, fun vs H1 Fd F1 rs he1 n1 s1 => ?_⟩
      obtain ⟨j, rfl, ⟨c1, c2⟩, rfl⟩ := ints_one hi
      obtain ⟨v, F0, rfl, r⟩ := (resvs_ok he1 rs hr).one
      obtain rfl := r.int_of
      refine ⟨j, rfl, c1, c2, hR _ _ _ Fd F1 rs he1 n1 s1 ?_⟩
      have w := walkP_rng (K := X.K) (G := fun H => PkAll X.K H [.int j] [.imm (.int j)]) (lo := 0) (n := j.toNat)
      simpa using w
  | rng2 =>
    obtain ⟨p, args, pos, rfl, hg, hs, hn2⟩ := chkC_of (y := "range") (n := 2) h
    obtain ⟨g1, g2, g3⟩ := gl_of hg
    have stars := chkEs_star hs
    match args, hn2, stars, hs with
    | [y, z], _, stars, hs =>
      simp only [List.all_cons, List.all_nil, Bool.and_true, Bool.and_eq_true] at stars
      refine ⟨fun pins s σ H R I h => (pi_range2 (g.gl g1) (g.blt _ (by decide)) (hA _ hs) (by rw [star_of stars.1, star_of stars.2] <;> rfl) (star_of stars.2 _ _)).run pins s σ H R I ?_⟩
      obtain ⟨e, F, os, e', ds, ps, he, n, hf, hr, hi, hR⟩ := h
      refine ⟨e, F, os, e', he, n, hf, fun vs H1 Fd F1 rs he1 n1 s1 => ?_⟩
      obtain ⟨i, j, rfl, c, rfl⟩ := ints_two hi
      obtain ⟨v, u, F0, G0, rfl, r, r'⟩ := two_ds (resvs_ok he1 rs hr)
      obtain rfl := r.int_of
      obtain rfl := r'.int_of
      exact ⟨i, j, rfl, c, hR _ _ _ Fd F1 rs he1 n1 s1 walkP_rng⟩
  | rng3 =>
    obtain ⟨p, args, pos, rfl, hg, hs, hn2⟩ := chkC_of (y := "range") (n := 3) h
    obtain ⟨g1, g2, g3⟩ := gl_of hg
    have stars := chkEs_star hs
    match args, hn2, stars, hs with
    | [y, z, w], _, stars, hs =>
      rw [List.all_cons, Bool.and_eq_true] at stars
      refine ⟨fun pins s σ H R I h => (pi_range3 (g.gl g1) (g.blt _ (by decide)) (hA _ hs) (star_of stars.1 _ _) (stars_of stars.2)).run pins s σ H R I ?_⟩
      obtain ⟨e, F, os, e', ds, ps, he, n, hf, hr, hi, hR⟩ := h
      refine ⟨e, F, os, e', he, n, hf, fun vs H1 Fd F1 rs he1 n1 s1 => ?_⟩
      obtain ⟨i, j, rfl, c, rfl⟩ := ints_three hi
      have pk := resvs_ok he1 rs hr
      cases pk with
      | cons r t =>
        obtain ⟨F0, r⟩ := r
        obtain ⟨v, u, F2, G2, rfl, r', r''⟩ := two_ds t
        obtain rfl := r.int_of
        obtain rfl := r'.int_of
        obtain rfl := r''.int_of
        exact ⟨i, j, -1, (i - j).toNat, rfl, RgC.neg c.1 c.2.1 c.2.2.1 c.2.2.2, hR _ _ _ Fd F1 rs he1 n1 s1 walkP_rngD⟩
  | enum =>
    have h := (Bool.and_eq_true _ _).mp h
    obtain ⟨ht, h⟩ := h
    obtain ⟨p, args, pos, rfl, hg, hs, hn2⟩ := chkC_of (y := "enumerate") (n := 1) h
    obtain ⟨g1, g2, g3⟩ := gl_of hg
    have stars := chkEs_star hs
    match args, hn2, stars, hs with
    | [y], _, stars, hs =>
      simp only [List.all_cons, List.all_nil, Bool.and_true] at stars
      obtain ⟨e1, e2, e3, rfl⟩ := isTup_of ht
      · refine ⟨fun pins s σ H R I h => (pi_enumG (g.gl g1) (g.blt _ (by decide)) (hA _ hs) (star_of stars _ _)).run pins s σ H R I ?_⟩
        obtain ⟨e, F, os, e', ds, ps, he, n, hf, hr, hi, hR⟩ := h
        refine ⟨e, F, os, e', he, n, hf, fun vs H1 Fd F1 rs he1 n1 s1 => ?_⟩
        obtain ⟨d, qs, rfl, hl, rfl⟩ := enum_of hi
        obtain ⟨v, F0, rfl, r⟩ := (resvs_ok he1 rs hr).one
        obtain ⟨kk, rfl, kd⟩ := rep_sk r hl
        obtain ⟨xs, q1, q2⟩ := sk_rep kd r hl
        exact ⟨kk, xs, rfl, q1, hR _ _ _ Fd F1 rs he1 n1 s1 (walkP_enum kd hl)⟩
  | zip =>
    have h := (Bool.and_eq_true _ _).mp h
    obtain ⟨ht, h⟩ := h
    obtain ⟨p, args, pos, rfl, hg, hs, hn2⟩ := chkC_of (y := "zip") (n := 2) h
    obtain ⟨g1, g2, g3⟩ := gl_of hg
    have stars := chkEs_star hs
    match args, hn2, stars, hs with
    | [y, z], _, stars, hs =>
      rw [List.all_cons, Bool.and_eq_true] at stars
      obtain ⟨e1, e2, e3, rfl⟩ := isTup_of ht
      · refine ⟨fun pins s σ H R I h => (pi_zipG (g.gl g1) (g.blt _ (by decide)) (hA _ hs) (star_of stars.1 _ _) (stars_of stars.2)).run pins s σ H R I ?_⟩
        obtain ⟨e, F, os, e', ds, ps, he, n, hf, hr, hi, hR⟩ := h
        refine ⟨e, F, os, e', he, n, hf, fun vs H1 Fd F1 rs he1 n1 s1 => ?_⟩
        obtain ⟨d, d2, qs, ws, rfl, rfl, l1, l2⟩ := zip_of hi
        obtain ⟨v, u, F2, G2, rfl, r, r'⟩ := two_ds (resvs_ok he1 rs hr)
        obtain ⟨k1, rfl, kd1⟩ := rep_sk r l1
        obtain ⟨k2, rfl, kd2⟩ := rep_sk r' l2
        obtain ⟨xs, q1, q2⟩ := sk_rep kd1 r l1
        obtain ⟨ys, q3, q4⟩ := sk_rep kd2 r' l2
        exact ⟨k1, k2, xs, ys, rfl, q1, q3, hR _ _ _ Fd F1 rs he1 n1 s1 (walkP_zip kd1 kd2 l1 l2)⟩
end
end Sw
set_option maxHeartbeats 1000000
/-! Sw, part 16: targets, comprehensions. -/
namespace Sw
open PySem PySem.Spec PyProof.Rows L2
/-- the slots but those of l stand -/
def Agr (l : List Nat) (σ σ' : L2.St) : Prop := σ'.length = σ.length ∧ ∀ j, j ∉ l → σ'[j]? = σ[j]?
theorem Agr.refl (l : List Nat) (σ : L2.St) : Agr l σ σ := ⟨rfl, fun _ _ => rfl⟩
theorem Agr.trans {l : List Nat} {σ τ υ : L2.St} (a : Agr l σ τ) (b : Agr l τ υ) : Agr l σ υ := ⟨b.1.trans a.1, fun j h => (b.2 j h).trans (a.2 j h)⟩
theorem Agr.mono {l m : List Nat} {σ τ : L2.St} (a : Agr l σ τ) (h : ∀ j, j ∈ l → j ∈ m) : Agr m σ τ := ⟨a.1, fun j n => a.2 j fun z => n (h j z)⟩
theorem agr_set {i : Nat} {σ : L2.St} {x : Option V} : Agr [i] σ (σ.set i x) := ⟨List.length_set, fun j h => List.getElem?_set_ne fun e => h (by rw [e]; exact List.mem_singleton.mpr rfl)⟩
structure StOk (X : Cx) (st : Str → Bool) : Prop where
  loc : ∀ x, st x = true → Loc X.env.scope x
  fn : ∀ x, st x = true → X.fn x = true ∨ X.env.scope.names.lookup x = some .local
def tG (K : PySem.W.Frag) (t : Pat) : TG := fun v σ H Q => ∃ e F p e', EnvRep K H σ e F ∧ F.Nodup ∧ PRep K H v p ∧ bindP t p e = some e' ∧
  ∀ σ' F', EnvRep K H σ' e' F' → F'.Nodup → (∀ a, a ∈ F' → a ∈ F) → Agr (asgP t) σ σ' → Q σ' H
def tGs (K : PySem.W.Frag) (ts : List Pat) : TGs := fun vs σ H Q => ∃ e F ps e', EnvRep K H σ e F ∧ F.Nodup ∧ PReps K H vs ps ∧ bindPs ts ps e = some e' ∧
  ∀ σ' F', EnvRep K H σ' e' F' → F'.Nodup → (∀ a, a ∈ F' → a ∈ F) → Agr (asgPs ts) σ σ' → Q σ' H
theorem PG.weak {X : Cx} {e : Expr} {t t' : TG} (h : PG X e t) (w : ∀ v σ H Q, t' v σ H Q → t v σ H Q) : PG X e t' := ⟨fun pins s σ H v u Q I r q => h.run pins s σ H v u Q I r (w v σ H Q q)⟩
theorem PGs.weak {X : Cx} {e : List Expr} {t t' : TGs} (h : PGs X e t) (w : ∀ v σ H Q, t' v σ H Q → t v σ H Q) : PGs X e t' := ⟨fun pins s σ H v u Q I r q => h.run pins s σ H v u Q I r (w v σ H Q q)⟩
theorem assign_of {e : Expr} (h : notStar e = true) (es : List Expr) (env : PySem.Env) : assignEach (e :: es) env = (false, assign e env) :: assignEach es env := by
  cases e <;> first | rfl | cases h
theorem assigns_of {N : List Str} {st : Str → Bool} {env : PySem.Env} : ∀ {ts : List Pat} {xs : List Expr}, chkPs N st ts xs = true → (assignEach xs env).length = ts.length ∧ (assignEach xs env).findIdx? (·.1) = none
  | [], xs, h => by
    cases xs with
    | nil => exact ⟨rfl, rfl⟩
    | cons _ _ => simp [chkPs] at h
  | t :: ts, xs, h => by
    cases xs with
    | nil => simp [chkPs] at h
    | cons x xs =>
      simp only [chkPs, Bool.and_eq_true] at h
      obtain ⟨h1, h2⟩ := assigns_of (env := env) (ts := ts) (xs := xs) h.2
      rw [assign_of h.1.1]
      refine ⟨by rw [List.length_cons, h1, List.length_cons], ?_⟩
      rw [List.findIdx?_cons, h2] <;> rfl
theorem PG.or {X : Cx} {e : Expr} {t t' : TG} (h : PG X e t) (h' : PG X e t') : PG X e (fun v σ H Q => t v σ H Q ∨ t' v σ H Q) :=
  ⟨fun pins s σ H v u Q I r q => q.elim (h.run pins s σ H v u Q I r) (h'.run pins s σ H v u Q I r)⟩
section
variable {X : Cx} {st : Str → Bool}
mutual
theorem snd_pat (hN : X.N.Nodup) (hc : X.calm = true) (ok : StOk X st) : ∀ {t : Pat} {x : Expr}, chkP X.N st t x = true → PG X x (tG X.K t)
  | .nm i, x, h => by
    cases x with
    | Name y pos =>
      simp only [chkP, Bool.and_eq_true] at h
      refine PG.weak (pg_name hN (of_decide_eq_true h.1) (ok.loc _ h.2) (ok.fn _ h.2)) fun v σ H Q q => ?_
      obtain ⟨e, F, p, e', he, n, r, hb, hQ⟩ := q
      simp only [bindP, Option.some.injEq] at hb
      subst hb
      obtain ⟨F', h1, h2, h3⟩ := he.setD (Rep.imm r) i
      refine hQ _ F' h1 (h3 n) (fun a z => (h2 a z).elim (fun z => nomatch z) id) ?_
      simp only [asgP]
      exact agr_set
    | _ => simp [chkP] at h
  | .tp ts, x, h => by
    cases x with
    | Tuple xs j pos =>
      simp only [chkP] at h
      obtain ⟨a1, a2⟩ := assigns_of (env := X.env) h
      refine PG.weak (PG.or (pg_tup (n := ts.length) hc (snd_pats hN hc ok h) a1 a2) (pg_unl (n := ts.length) hc (snd_pats hN hc ok h) a1 a2)) fun v σ H Q q => ?_
      obtain ⟨e, F, p, e', he, n, r, hb, hQ⟩ := q
      cases p <;> simp only [bindP] at hb <;> first | (cases hb; done) | skip
      · rename_i ps
        cases r with
        | @tup a xs _ s1 q1 =>
          refine .inl ⟨a, xs, rfl, s1, ?_, e, F, ps, e', he, n, q1, hb, fun σ' F' h1 h2 h3 h4 => hQ σ' F' h1 h2 h3 (by simp only [asgP]; exact h4)⟩
          rw [q1.length]
          exact bindPs_len hb
      · rename_i ps
        cases r with
        | @lst a xs _ s1 q1 =>
          refine .inr ⟨a, xs, rfl, s1.sql, ?_, e, F, ps, e', he, n, q1, hb, fun σ' F' h1 h2 h3 h4 => hQ σ' F' h1 h2 h3 (by simp only [asgP]; exact h4)⟩
          rw [q1.length]
          exact bindPs_len hb
    | _ => simp [chkP] at h
theorem snd_pats (hN : X.N.Nodup) (hc : X.calm = true) (ok : StOk X st) : ∀ {ts : List Pat} {xs : List Expr}, chkPs X.N st ts xs = true → PGs X xs (tGs X.K ts)
  | [], xs, h => by
    cases xs with
    | nil =>
      refine PGs.weak pgs_nil fun v σ H Q q => ?_
      obtain ⟨e, F, ps, e', he, n, r, hb, hQ⟩ := q
      cases ps with
      | nil =>
        cases r
        simp only [bindPs, Option.some.injEq] at hb
        subst hb
        exact ⟨rfl, hQ σ F he n (fun a z => z) (Agr.refl _ _)⟩
      | cons _ _ => simp [bindPs] at hb
    | cons _ _ => simp [chkPs] at h
  | t :: ts, xs, h => by
    cases xs with
    | nil => simp [chkPs] at h
    | cons x xs =>
      simp only [chkPs, Bool.and_eq_true] at h
      refine PGs.weak (pgs_cons (snd_pat hN hc ok h.1.2) (snd_pats hN hc ok h.2) (by rw [assign_of h.1.1] <;> rfl)) fun v σ H Q q => ?_
      obtain ⟨e, F, ps, e', he, n, r, hb, hQ⟩ := q
      cases ps with
      | nil => simp [bindPs] at hb
      | cons p ps =>
        simp only [bindPs] at hb
        obtain ⟨e1, hb1, hb2⟩ := bind_some hb
        cases r with
        | cons r1 r2 =>
          refine ⟨_, _, rfl, e, F, p, e1, he, n, r1, hb1, fun σ1 F1 h1 h2 h3 h4 => ⟨e1, F1, ps, e', h1, h2, r2, hb2, fun σ2 F2 g1 g2 g3 g4 => ?_⟩⟩
          refine hQ σ2 F2 g1 g2 (fun a z => h3 a (g3 a z)) ?_
          simp only [asgPs]
          exact (h4.mono fun j z => List.mem_append_left _ z).trans (g4.mono fun j z => List.mem_append_right _ z)
theorem bindPs_len : ∀ {ts : List Pat} {ps : List P} {e e' : En}, bindPs ts ps e = some e' → ps.length = ts.length
  | [], ps, e, e', h => by
    cases ps with
    | nil => rfl
    | cons _ _ => simp [bindPs] at h
  | t :: ts, ps, e, e', h => by
    cases ps with
    | nil => simp [bindPs] at h
    | cons p ps =>
      simp only [bindPs] at h
      obtain ⟨e1, _, h2⟩ := bind_some h
      rw [List.length_cons, List.length_cons, bindPs_len h2]
end
end
/-! ### the block's own names -/
section
variable {K : PySem.W.Frag} {H H' : Hp}
theorem EnvRep.setNN {σ : L2.St} {e : En} {F : List Addr} (h : EnvRep K H σ e F) (i : Nat) : ∃ F', EnvRep K H (σ.set i none) (e.set i none) F' ∧ (∀ a, a ∈ F' → a ∈ F) ∧ (F.Nodup → F'.Nodup) := by
  induction h generalizing i with
  | nil => exact ⟨[], .nil, fun a z => z, fun _ => List.nodup_nil⟩
  | @ns x0 σ0 e0 F0 h0 ih =>
    cases i with
    | zero => exact ⟨F0, .ns h0, fun a z => z, fun n => n⟩
    | succ i =>
      obtain ⟨F', h1, h2, h3⟩ := ih i
      exact ⟨F', .ns h1, h2, h3⟩
  | @sm v0 d0 σ0 e0 F0 G0 r0 h0 ih =>
    cases i with
    | zero => exact ⟨G0, .ns h0, fun a z => List.mem_append_right _ z, fun n => nd_right n⟩
    | succ i =>
      obtain ⟨F', h1, h2, h3⟩ := ih i
      refine ⟨F0 ++ F', .sm r0 h1, fun a z => (List.mem_append.mp z).elim (fun z => List.mem_append_left _ z) fun z => List.mem_append_right _ (h2 a z), fun n => ?_⟩
      exact nd_mk (nd_left n) (h3 (nd_right n)) fun a z y => nd_off n a z (h2 a y)
theorem EnvRep.wiped {σ : L2.St} {e : En} {F : List Addr} (h : EnvRep K H σ e F) : ∀ own : List Nat, ∃ F', EnvRep K H (wipe σ own) (wipeE e own) F' ∧ (∀ a, a ∈ F' → a ∈ F) ∧ (F.Nodup → F'.Nodup)
  | [] => ⟨F, h, fun a z => z, fun n => n⟩
  | i :: own => by
    obtain ⟨F1, h1, h2, h3⟩ := h.wiped own
    obtain ⟨F2, g1, g2, g3⟩ := h1.setNN i
    exact ⟨F2, g1, fun a z => h2 a (g2 a z), fun n => g3 (h3 n)⟩
theorem EnvRep.unset {τ : L2.St} {e : En} {F : List Addr} {i : Nat} {x : Option D} (h : EnvRep K H (τ.set i none) e F) (hx : ∀ d, x = some d → ∃ w, τ[i]? = some (some w) ∧ Rep K H w d []) : ∃ F', EnvRep K H τ (e.set i x) F' ∧ (∀ a, a ∈ F' → a ∈ F) ∧ (F.Nodup → F'.Nodup) := by
  induction τ generalizing e F i with
  | nil => cases h; exact ⟨[], .nil, fun a z => z, fun n => n⟩
  | cons y τ ih =>
    cases i with
    | zero =>
      rw [List.set_cons_zero] at h
      cases h with
      | ns h =>
        cases x with
        | none => exact ⟨F, .ns h, fun a z => z, fun n => n⟩
        | some d =>
          obtain ⟨w, h1, h2⟩ := hx d rfl
          have e1 : y = some w := by simpa using h1
          subst e1
          exact ⟨[] ++ F, .sm h2 h, fun a z => z, fun n => n⟩
    | succ i =>
      rw [List.set_cons_succ] at h
      cases h with
      | ns h =>
        obtain ⟨F', h1, h2, h3⟩ := ih h (fun d e => by obtain ⟨w, h1, h2⟩ := hx d e; exact ⟨w, by simpa using h1, h2⟩)
        exact ⟨F', .ns h1, h2, h3⟩
      | @sm v0 d0 σ0 e0 F0 G0 r0 h =>
        obtain ⟨F', h1, h2, h3⟩ := ih h (fun d e => by obtain ⟨w, h1, h2⟩ := hx d e; exact ⟨w, by simpa using h1, h2⟩)
        refine ⟨F0 ++ F', .sm r0 h1, fun a z => (List.mem_append.mp z).elim (fun z => List.mem_append_left _ z) fun z => List.mem_append_right _ (h2 a z), fun n => ?_⟩
        exact nd_mk (nd_left n) (h3 (nd_right n)) fun a z y => nd_off n a z (h2 a y)
theorem wipe_get {σ : L2.St} {i : Nat} : ∀ {own : List Nat}, i ∉ own → (wipe σ own)[i]? = σ[i]?
  | [], _ => rfl
  | j :: own, h => by
    unfold wipe
    rw [List.getElem?_set_ne (fun e => h (by rw [e]; exact List.mem_cons_self)), wipe_get fun z => h (List.mem_cons_of_mem _ z)]
theorem wipe_hit {σ : L2.St} {i : Nat} : ∀ {own : List Nat}, i ∈ own → i < σ.length → (wipe σ own)[i]? = some none
  | j :: own, h, hl => by
    unfold wipe
    by_cases c : j = i
    · subst c
      rw [List.getElem?_set_self (by rw [wipe_length]; exact hl)]
    · rw [List.getElem?_set_ne c]
      exact wipe_hit ((List.mem_cons.mp h).resolve_left fun e => c e.symm) hl
theorem wipe_agr {σ τ : L2.St} {l own : List Nat} (a : Agr l (wipe σ own) τ) (h : ∀ j, j ∈ l → j ∈ own) : wipe τ own = wipe σ own := by
  apply List.ext_getElem?
  intro j
  by_cases c : j ∈ own
  · by_cases hl : j < σ.length
    · rw [wipe_hit c hl, wipe_hit c (by rw [a.1, wipe_length]; exact hl)]
    · rw [List.getElem?_eq_none (by rw [wipe_length, a.1, wipe_length]; omega), List.getElem?_eq_none (by rw [wipe_length]; omega)]
  · rw [wipe_get c, a.2 j fun z => c (h j z)]
theorem EnvRep.put {σ : L2.St} {e0 : En} (h0 : ∀ i p, getE e0 i = some (.imm p) → ∃ w, σ[i]? = some (some w) ∧ PRep K H w p) : ∀ {own : List Nat} {e : En} {F : List Addr}, own.Nodup → EnvRep K H (wipe σ own) e F → ∃ F', EnvRep K H σ (putBack e e0 own) F' ∧ (∀ a, a ∈ F' → a ∈ F) ∧ (F.Nodup → F'.Nodup)
  | [], e, F, _, h => ⟨F, h, fun a z => z, fun n => n⟩
  | i :: own, e, F, nd, h => by
    have key : ∃ F1, EnvRep K H (wipe σ own) (e.set i (keepImm (getE e0 i))) F1 ∧ (∀ a, a ∈ F1 → a ∈ F) ∧ (F.Nodup → F1.Nodup) := by
      have c := (List.nodup_cons.mp nd).1
      refine EnvRep.unset h fun d q => ?_
      unfold keepImm at q
      split at q
      · rename_i p hp
        cases q
        obtain ⟨w, h1, h2⟩ := h0 i p hp
        exact ⟨w, by rw [wipe_get c]; exact h1, Rep.imm h2⟩
      · cases q
    obtain ⟨F1, h1, h2, h3⟩ := key
    obtain ⟨F2, g1, g2, g3⟩ := EnvRep.put h0 (List.nodup_cons.mp nd).2 h1
    exact ⟨F2, g1, fun a z => h2 a (g2 a z), fun n => g3 (h3 n)⟩
end
/-! ### comprehensions -/
theorem lock_get {os : List Opd} {e e' : En} (h : lockOk os e e' = true) : resvs e' os = resvs e os := by
  induction os with
  | nil => rfl
  | cons o os ih =>
    unfold lockOk at h
    rw [List.all_cons, Bool.and_eq_true] at h
    unfold resvs
    rw [ih h.2]
    cases o with
    | tmp d => rfl
    | slot i =>
      have h1 : getE e' i = getE e i := of_decide_eq_true h.1
      show (getE e' i).bind _ = (getE e i).bind _
      rw [h1]
theorem lock_refl (os : List Opd) (e : En) : lockOk os e e = true := by
  unfold lockOk
  rw [List.all_eq_true]
  intro o _
  cases o with
  | tmp d => rfl
  | slot i => exact decide_eq_true rfl
theorem lock_trans {os : List Opd} {e e1 e2 : En} (h : lockOk os e e1 = true) (h' : lockOk os e1 e2 = true) : lockOk os e e2 = true := by
  unfold lockOk at h h' ⊢
  rw [List.all_eq_true] at h h' ⊢
  intro o ho
  have a := h o ho
  have b := h' o ho
  cases o with
  | tmp d => rfl
  | slot i => exact decide_eq_true ((of_decide_eq_true b).trans (of_decide_eq_true a))
theorem getE_wipe {e : En} {i : Nat} : ∀ {own : List Nat}, i ∉ own → getE (wipeE e own) i = getE e i
  | [], _ => rfl
  | j :: own, h => by
    unfold wipeE
    rw [getE_set_ne _ _ (fun q => h (by rw [q]; exact List.mem_cons_self)), getE_wipe fun z => h (List.mem_cons_of_mem _ z)]
theorem free_not {os : List Opd} {own : List Nat} (h : freeOf os own = true) : ∀ i, Opd.slot i ∈ os → i ∉ own := fun i hi => by
  unfold freeOf at h
  have := List.all_eq_true.mp h _ hi
  simpa using this
theorem lock_wipe {os : List Opd} {own : List Nat} {e : En} (h : freeOf os own = true) : lockOk os e (wipeE e own) = true := by
  unfold lockOk
  rw [List.all_eq_true]
  intro o ho
  cases o with
  | tmp d => rfl
  | slot i => exact decide_eq_true (getE_wipe (free_not h i ho))
theorem ORs.slots {K : PySem.W.Frag} {H : Hp} {σ τ : L2.St} {vs : List V} {os : List Opd} {F : List Addr} (h : ORs K H σ vs os F) (a : ∀ i, Opd.slot i ∈ os → τ[i]? = σ[i]?) : ORs K H τ vs os F := by
  induction h with
  | nil => exact .nil
  | @cons v vs o os F G r _ ih =>
    refine .cons ?_ (ih fun i z => a i (List.mem_cons_of_mem _ z))
    cases o with
    | tmp d => exact r
    | slot i =>
      obtain ⟨h1, h2⟩ := (show σ[i]? = some (some v) ∧ F = [] from r)
      exact (show τ[i]? = some (some v) ∧ F = [] from ⟨by rw [a i List.mem_cons_self]; exact h1, h2⟩)
theorem PTs.weak {X : Cx} {e : List Expr} {t t' : TT} (h : PTs X e t) (w : ∀ σ H Q, t' σ H Q → t σ H Q) : PTs X e t' := ⟨fun pins s σ H Q I q => h.run pins s σ H Q I (w σ H Q q)⟩
section
variable {T : Tab} {Φ : CallS} {k : Nat} {sc : Scope} {X : Cx}
theorem snd_ptsNil : PTs X [] (tB X.K (evtests Φ T.G [])) := PTs.weak pts_nil fun σ H Q h => by
  obtain ⟨e, F, b, e', he, n, hf, hQ⟩ := h
  simp only [evtests, Option.some.injEq, Prod.mk.injEq] at hf
  obtain ⟨rfl, rfl⟩ := hf
  exact hQ H F he n (Stp.refl H F)
theorem snd_ptsOne {a : E} {x : Expr} (h : PT X x (tTst X.K (evo Φ T.G a))) : PTs X [x] (tB X.K (evtests Φ T.G [a])) := PTs.weak (pts_one h) fun σ H Q h => by
  obtain ⟨e, F, b, e', he, n, hf, hQ⟩ := h
  simp only [evtests] at hf
  obtain ⟨⟨y, e1⟩, h1, hf⟩ := bind_some hf
  obtain ⟨d, h2, hf⟩ := bind_some hf
  obtain ⟨b', h3, hf⟩ := bind_some hf
  cases hf
  exact ⟨e, F, y, _, d, _, he, n, h1, h2, h3, hQ⟩
def stepC (Φ : CallS) (G : List P) (own : List Nat) (t : Pat) (tests : List E) (elt : E) (os : List Opd) (e1 : En) (p : P) (acc : List P) (e2 : En) : Option (List P × En) :=
  (bindP t p e2).bind fun e3 => (evtests Φ G tests e3).bind fun b =>
    if b.1 then (evo Φ G elt b.2).bind fun x => (immO x.1).bind fun q => if lockOk os e1 x.2 ∧ acc.length < line then some (acc ++ [q], wipeE x.2 own) else none
    else if lockOk os e1 b.2 then some (acc, wipeE b.2 own) else none
theorem evo_cmp {own : List Nat} {t : Pat} {ik : IK} {as tests : List E} {elt : E} {e e2 : En} {r : Opd} (h : evo Φ T.G (.cmp own t ik as tests elt) e = some (r, e2)) :
    ∃ os e1 ds ps acc e9, evos Φ T.G as e = some (os, e1) ∧ resvs e1 os = some ds ∧ items ik ds = some ps ∧ freeOf os own = true ∧ compL (stepC Φ T.G own t tests elt os e1) ps [] (wipeE e1 own) = some (acc, e9) ∧ r = .tmp (.lst acc) ∧ e2 = putBack e9 e1 own := by
  simp only [evo] at h
  obtain ⟨⟨os, e1⟩, h1, h⟩ := bind_some h
  obtain ⟨ds, h2, h⟩ := bind_some h
  obtain ⟨ps, h3, h⟩ := bind_some h
  split at h
  · rename_i c
    obtain ⟨⟨acc, e9⟩, h4, h⟩ := bind_some h
    cases h
    exact ⟨os, e1, ds, ps, acc, e9, h1, h2, h3, c, h4, rfl, rfl⟩
  · cases h
/-- what a turn starts from; D the new list -/
structure CInv (K : PySem.W.Frag) (own : List Nat) (σ : L2.St) (os : List Opd) (e1 : En) (vs : List V) (D : Addr) (H0 : Hp) (F0 : List Addr) (H : Hp) (acc : List P) (e : En) : Prop where
  ex : ∃ va Fd F, H D = some (.lst va) ∧ PReps K H va acc ∧ ORs K H (wipe σ own) vs os Fd ∧ EnvRep K H (wipe σ own) e F ∧ (D :: (Fd ++ F)).Nodup ∧ Stp H0 F0 H (D :: (Fd ++ F)) ∧ Keeps H0 H
  lock : lockOk os e1 e = true
theorem lay_list {H : Hp} {D : Addr} {xs : List V} {F : List Addr} (h : H D = none) (m : MutF H F) (n : F.Nodup) : Stp H F (upd H D (.lst xs)) (D :: F) ∧ (D :: F).Nodup :=
  ⟨⟨fun a o e z => by rw [upd_ne (fun y : a = D => by rw [y, h] at e; cases e)]; exact e, fun a z => (List.mem_cons.mp z).elim (fun y => .inr (by rw [y]; exact h)) .inl⟩,
    List.nodup_cons.mpr ⟨(fun z => by obtain ⟨o, e, _⟩ := m D z; rw [h] at e; cases e), n⟩⟩
theorem upd_keeps {H : Hp} {D : Addr} {va : List V} {o : HO} (h : H D = some (.lst va)) : Keeps H (upd H D o) := fun a u e st => by
  rw [upd_ne (fun y : a = D => by subst y; rw [h] at e; cases e; exact st trivial)]
  exact e
theorem stp_pick {H H' : Hp} {F G G' : List Addr} (s : Stp H F H' G) (h : ∀ a ∈ G', a ∈ G) : Stp H F H' G' := s.less (fun a z => z) h
theorem lcmp_reads {own : List Nat} {t : Pat} {ik : IK} {as tests : List E} {elt : E} {ow : List (Str × Nat)} {σ : L2.St} {H : Hp} {Q : VK} (how : ow.map (·.2) = own) (hon : own.Nodup) (hat : ∀ j ∈ asgP t, j ∈ own) (h : tO X.K (evo Φ T.G (.cmp own t ik as tests elt)) σ H Q) :
    tLc (tI X.K ik (evos Φ T.G as)) (tG X.K t) (tB X.K (evtests Φ T.G tests)) (tO X.K (evo Φ T.G elt)) (ow.map (·.2)) σ H Q := by
  subst how
  obtain ⟨e, F, o, e', he0, n0, hf, hQ⟩ := h
  obtain ⟨os, e1, ds, ps, accF, e9, h1, h2, h3, hfree, hL, rfl, rfl⟩ := evo_cmp hf
  refine ⟨e, F, os, e1, ds, ps, he0, n0, h1, h2, h3, fun J vs H1 Fd F1 ors he1 n1 s1 walk => ?_⟩
  intro D hD
  generalize hown : ow.map (·.2) = own at *
  have orsW : ORs X.K H1 (wipe σ own) vs os Fd := ors.slots fun i z => wipe_get (free_not hfree i z)
  obtain ⟨FW, w1, w2, w3⟩ := he1.wiped own
  have nW : (Fd ++ FW).Nodup := nd_mk (nd_left n1) (w3 (nd_right n1)) fun a z y => nd_off n1 a z (w2 a y)
  have sW : Stp H F H1 (Fd ++ FW) := stp_pick s1 fun a z => (List.mem_append.mp z).elim (fun z => List.mem_append_left _ z) fun z => List.mem_append_right _ (w2 a z)
  have smD : Same H1 (upd H1 D (.lst [])) := same_new hD
  obtain ⟨sD, nD⟩ := lay_list (xs := []) hD (orsW.mut.append w1.mut) nW
  have start : CInv X.K own σ os e1 vs D H F (upd H1 D (.lst [])) [] (wipeE e1 own) :=
    ⟨⟨[], Fd, FW, upd_same, .nil, orsW.mono (Keeps.of_same smD) (same_off smD orsW.mut), w1.same smD, nD, sW.trans sD, (sW.keeps he0.mut).trans (Keeps.of_same smD)⟩, lock_wipe hfree⟩
  refine lc_it walk (fun i H' => ∃ acc ei, CInv X.K own σ os e1 vs D H F H' acc ei ∧ Keeps H1 H' ∧ compL (stepC Φ T.G own t tests elt os e1) (ps.drop i) acc ei = some (accF, e9)) ⟨[], _, start, Keeps.of_same smD, by rw [List.drop_zero]; exact hL⟩ (fun i H' hi hp => ?_) (fun i y H2 H3 hi hp hy => ?_) (fun H' hp => ?_)
  · obtain ⟨acc, ei, ⟨⟨va, Gd, Fi, c1, c2, c3, c4, c5, c6, _⟩, lk⟩, _, _⟩ := hp
    exact resvs_ok c4 c3 (by rw [lock_get lk]; exact h2)
  · obtain ⟨acc, ei, ⟨⟨va, Gd, Fi, c1, c2, c3, c4, c5, c6, c7⟩, lk⟩, kp0, hl⟩ := hp
    obtain ⟨sm, p, hp1, hp2⟩ := hy
    have hdr : ps.drop i = p :: ps.drop (i + 1) := by
      obtain ⟨hlt, e⟩ := List.getElem?_eq_some_iff.mp hp1
      rw [List.drop_eq_getElem_cons hlt, e]
    rw [hdr] at hl
    unfold compL at hl
    obtain ⟨⟨acc', e3⟩, hs, hl⟩ := bind_some hl
    unfold stepC at hs
    obtain ⟨eb, hs1, hs⟩ := bind_some hs
    obtain ⟨⟨b, e4⟩, hs2, hs⟩ := bind_some hs
    have c4' := c4.same sm
    have nGF := (List.nodup_cons.mp c5).2
    have dn := (List.nodup_cons.mp c5).1
    refine ⟨ei, Fi, p, eb, c4', nd_right nGF, hp2, hs1, fun σ2 F2 g1 g2 g3 g4 => ⟨wipe_agr g4 hat, eb, F2, b, e4, g1, g2, hs2, fun H4 F4 k1 k2 k3 => ?_⟩⟩
    have hwp : wipe σ2 own = wipe σ own := wipe_agr g4 hat
    have mF2 : MutF H3 F2 := g1.mut
    have nF2 : ∀ a, a ∈ F2 → a ∈ Fi := g3
    have mD : MutF H3 (D :: Gd) := fun a z => (List.mem_cons.mp z).elim (fun y => by rw [y]; exact ⟨_, sm _ _ c1, trivial⟩) fun y => by
      obtain ⟨o, q1, q2⟩ := c3.mut a y
      exact ⟨o, sm _ _ q1, q2⟩
    have off1 : ∀ a ∈ D :: Gd, a ∉ F2 := fun a z y => (List.mem_cons.mp z).elim (fun w => dn (by rw [← w]; exact List.mem_append_right _ (nF2 a y))) fun w => nd_off nGF a w (nF2 a y)
    have kp3 : Keeps H3 H4 := k3.keeps mF2
    have off4 := k3.off mD off1
    have ap4 := k3.apart mD off1
    have d4 : H4 D = some (.lst va) := by rw [off4 D List.mem_cons_self]; exact sm _ _ c1
    have r4 : PReps X.K H4 va acc := (c2.keep (Keeps.of_same sm)).keep kp3
    have o4 : ORs X.K H4 (wipe σ own) vs os Gd := (c3.mono (Keeps.of_same sm) (same_off sm c3.mut)).mono kp3 fun a z => off4 a (List.mem_cons_of_mem _ z)
    -- the step so far
    have st4 : Stp H F H4 (D :: (Gd ++ F4)) := by
      have a1 : Stp H F H3 (D :: (Gd ++ Fi)) := c6.trans (Stp.of_same sm)
      have a2 : Stp H F H3 ((D :: Gd) ++ F2) := stp_pick a1 fun a z => (List.mem_append.mp z).elim (fun z => (List.mem_cons.mp z).elim (fun y => by rw [y]; exact List.mem_cons_self) fun y => List.mem_cons_of_mem _ (List.mem_append_left _ y)) fun z => List.mem_cons_of_mem _ (List.mem_append_right _ (nF2 a z))
      exact a2.trans (k3.frameL (D :: Gd))
    have nD4 : (D :: (Gd ++ F4)).Nodup := by
      have : ((D :: Gd) ++ F4).Nodup := nd_mk (List.nodup_cons.mpr ⟨fun z => dn (List.mem_append_left _ z), nd_left nGF⟩) k2 ap4
      exact this
    cases b with
    | false =>
      dsimp only
      rw [if_neg Bool.false_ne_true] at hs ⊢
      split at hs
      · rename_i lk2
        cases hs
        obtain ⟨F5, m1, m2, m3⟩ := k1.wiped own
        rw [hwp] at m1
        refine ⟨acc, _, ⟨⟨va, Gd, F5, d4, r4, o4, m1, ?_, stp_pick st4 ?_, (c7.trans (Keeps.of_same sm)).trans kp3⟩, lock_trans lk2 (lock_wipe hfree)⟩, (kp0.trans (Keeps.of_same sm)).trans kp3, hl⟩
        · refine List.nodup_cons.mpr ⟨fun z => ?_, nd_mk (nd_left nGF) (m3 k2) fun a z y => ?_⟩
          · rcases List.mem_append.mp z with z | z
            · exact dn (List.mem_append_left _ z)
            · exact ap4 D List.mem_cons_self (m2 D z)
          · exact ap4 a (List.mem_cons_of_mem _ z) (m2 a y)
        · intro a z
          rcases List.mem_cons.mp z with z | z
          · rw [z]; exact List.mem_cons_self
          · rcases List.mem_append.mp z with z | z
            · exact List.mem_cons_of_mem _ (List.mem_append_left _ z)
            · exact List.mem_cons_of_mem _ (List.mem_append_right _ (m2 a z))
      · cases hs
    | true =>
      dsimp only
      rw [if_pos rfl] at hs ⊢
      obtain ⟨⟨z, e5⟩, hs3, hs⟩ := bind_some hs
      obtain ⟨q, hs4, hs⟩ := bind_some hs
      split at hs
      · rename_i lk2
        obtain ⟨lk2, room⟩ := lk2
        cases hs
        refine tO_mk k1 k2 hs3 fun y5 H5 Fy F5 oy he5 n5 s5 => ?_
        obtain ⟨py, rfl⟩ := immO_ok oy hs4
        rw [List.nil_append] at n5 s5
        have mD4 : MutF H4 (D :: Gd) := fun a z => (List.mem_cons.mp z).elim (fun y => by rw [y]; exact ⟨_, d4, trivial⟩) fun y => o4.mut a y
        have kp5 : Keeps H4 H5 := s5.keeps k1.mut
        have off5 := s5.off mD4 ap4
        have ap5 := s5.apart mD4 ap4
        have d5 : H5 D = some (.lst va) := by rw [off5 D List.mem_cons_self]; exact d4
        have r5 := r4.keep kp5
        have o5 : ORs X.K H5 (wipe σ own) vs os Gd := o4.mono kp5 fun a z => off5 a (List.mem_cons_of_mem _ z)
        have kpu : Keeps H5 (upd H5 D (.lst (va ++ [y5]))) := upd_keeps d5
        obtain ⟨F6, m1, m2, m3⟩ := he5.wiped own
        rw [hwp] at m1
        have dF6 : D ∉ F6 := fun z => ap5 D List.mem_cons_self (m2 D z)
        have dGd : D ∉ Gd := fun z => dn (List.mem_append_left _ z)
        refine ⟨va, d5, by rw [r5.length]; exact lt_line room, acc ++ [q], _, ⟨⟨va ++ [y5], Gd, F6, upd_same, (r5.append (.cons py .nil)).keep kpu, o5.mono kpu fun a z => upd_ne fun y => dGd (by rw [← y]; exact z),
          m1.mono kpu fun a z => upd_ne fun y => dF6 (by rw [← y]; exact z), ?_, ?_, (((c7.trans (Keeps.of_same sm)).trans kp3).trans kp5).trans kpu⟩, lock_trans lk2 (lock_wipe hfree)⟩, (((kp0.trans (Keeps.of_same sm)).trans kp3).trans kp5).trans kpu, hl⟩
        · refine List.nodup_cons.mpr ⟨fun z => (List.mem_append.mp z).elim dGd dF6, nd_mk (nd_left nGF) (m3 n5) fun a z y => ap5 a (List.mem_cons_of_mem _ z) (m2 a y)⟩
        · have a3 : Stp H F H5 ((D :: Gd) ++ F5) := (show Stp H F H4 ((D :: Gd) ++ F4) from st4).trans (s5.frameL (D :: Gd))
          have a4 : Stp H5 ((D :: Gd) ++ F5) (upd H5 D (.lst (va ++ [y5]))) ((D :: Gd) ++ F5) := lock_stp (List.mem_append_left _ List.mem_cons_self) fun b z => z
          refine stp_pick (a3.trans a4) fun a z => ?_
          rcases List.mem_cons.mp z with z | z
          · rw [z]; exact List.mem_append_left _ List.mem_cons_self
          · rcases List.mem_append.mp z with z | z
            · exact List.mem_append_left _ (List.mem_cons_of_mem _ z)
            · exact List.mem_append_right _ (m2 a z)
      · cases hs
  · obtain ⟨acc, ei, ⟨⟨va, Gd, Fi, c1, c2, c3, c4, c5, c6, c7⟩, lk⟩, kp0, hl⟩ := hp
    rw [List.drop_length] at hl
    unfold compL at hl
    cases hl
    have dn := (List.nodup_cons.mp c5).1
    obtain ⟨F9, m1, m2, m3⟩ := EnvRep.put (e0 := e1) (fun i p hp => by
      obtain ⟨w, Fi', q1, q2, _⟩ := he1.get hp
      obtain ⟨q3, _⟩ := q2.imm_of
      exact ⟨w, q1, q3.keep kp0⟩) hon c4
    refine hQ (.ref D) H' [D] F9 (Rep.lst c1 c2) m1 ?_ (stp_pick c6 fun a z => ?_)
    · exact List.nodup_cons.mpr ⟨fun z => dn (List.mem_append_right _ (m2 D z)), m3 (nd_right (List.nodup_cons.mp c5).2)⟩
    · rcases List.mem_cons.mp z with z | z
      · rw [z]; exact List.mem_cons_self
      · exact List.mem_cons_of_mem _ (List.mem_append_right _ (m2 a z))
theorem snd_lcmp {own : List Nat} {t : Pat} {ik : IK} {as tests : List E} {elt : E} {x tg iter : Expr} {ifs : List Expr} {scope : Scope} {ow : List (Str × Nat)} {pos : Pos} (g : Good T Φ k sc X)
    (how : ow.map (·.2) = own) (hon : own.Nodup) (hb : BlkOk X.N X.env.scope scope ow) (hset : notSet iter = true) (hi : PI X tg iter (tI X.K ik (evos Φ T.G as))) (hat : ∀ j ∈ asgP t, j ∈ own)
    (hg : ∀ (s : Shared) (H : Hp) (C : Addr) (cl : List (Str × Addr)) (fp : List Addr), PG (X.blk s H scope (compEnvC scope cl C X.env) fp) tg (tG X.K t))
    (ht : ∀ (s : Shared) (H : Hp) (C : Addr) (cl : List (Str × Addr)) (fp : List Addr), PTs (X.blk s H scope (compEnvC scope cl C X.env) fp) ifs (tB X.K (evtests Φ T.G tests)))
    (he : ∀ (s : Shared) (H : Hp) (C : Addr) (cl : List (Str × Addr)) (fp : List Addr), PE (X.blk s H scope (compEnvC scope cl C X.env) fp) x (tO X.K (evo Φ T.G elt))) :
    PE X (.ListComp x [⟨tg, iter, ifs, 0⟩] scope pos) (tO X.K (evo Φ T.G (.cmp own t ik as tests elt))) :=
  PE.weak (pe_lc g.calm (by rw [g.N]; exact g.nd) hi hb hg ht he (notSet_of hset _)) fun σ H Q h => lcmp_reads how hon hat h

end
end Sw
set_option maxHeartbeats 1000000
/-! Sw, part 17: soundness of expressions. -/
namespace Sw
open PySem PySem.Spec PyProof.Rows L2
theorem and2 {a b : Bool} (h : (a && b) = true) : a = true ∧ b = true := (Bool.and_eq_true _ _).mp h
theorem relS_vis {scope sc : Scope} : (relS scope sc).kind = scope.kind := rfl
theorem Good.blk {T : Tab} {Φ : CallS} {k : Nat} {sc : Scope} {X : Cx} (g : Good T Φ k sc X) (s : Shared) (H : Hp) (scope : Scope) (C : Addr) (cl : List (Str × Addr)) (fp : List Addr) : Good T Φ k (relS scope sc) (X.blk s H scope (compEnvC scope cl C X.env) fp) :=
  ⟨g.N, g.nd, g.calm, g.room, by rw [← g.scope]; rfl, g.glos, g.fns, g.blt⟩
theorem stOk_blk {X : Cx} (s : Shared) (H : Hp) (scope : Scope) (C : Addr) (cl : List (Str × Addr)) (fp : List Addr) : StOk (X.blk s H scope (compEnvC scope cl C X.env) fp) (stB scope) := by
  refine ⟨fun x h => ?_, fun x h => ?_⟩
  · unfold stB at h
    rw [Bool.or_eq_true] at h
    rcases h with h | h
    · exact .inl (lookup_relS_keep (by decide) (look_of h))
    · exact .inr (lookup_relS_keep (by decide) (look_of h))
  · unfold stB at h
    rw [Bool.or_eq_true] at h
    rcases h with h | h
    · exact .inr (lookup_relS_keep (by decide) (look_of h))
    · refine .inl ?_
      show (scope.names.lookup x == some NameKind.cell) = true
      rw [look_of h] <;> rfl
structure SndE (T : Tab) (Φ : CallS) (X : Cx) (a : E) (x : Expr) : Prop where
  pe : PE X x (tO X.K (evo Φ T.G a))
  pt : tstB a = true → PT X x (tTst X.K (evo Φ T.G a))
structure SndL (T : Tab) (Φ : CallS) (X : Cx) (as : List E) (xs : List Expr) : Prop where
  pa : PA X xs (tOs X.K (evos Φ T.G as))
  and : ∀ pos, xs ≠ [] → PE X (.BoolOp .And xs pos) (tO X.K (evand Φ T.G as))
  or : ∀ pos, xs ≠ [] → PE X (.BoolOp .Or xs pos) (tO X.K (evor Φ T.G as))
  wand : ∀ pos, xs ≠ [] → tstBs as = true → PW X (.BoolOp .And xs pos) (tTst X.K (evand Φ T.G as))
  wor : ∀ pos, xs ≠ [] → tstBs as = true → PW X (.BoolOp .Or xs pos) (tTst X.K (evor Φ T.G as))
  one : ∀ a x, as = [a] → xs = [x] → SndE T Φ X a x
  two : ∀ a b x y, as = [a, b] → xs = [x, y] → SndE T Φ X a x ∧ SndE T Φ X b y
theorem SndL.pts {T : Tab} {Φ : CallS} {X : Cx} {as : List E} {xs : List Expr} (h : SndL T Φ X as xs) (hl : as.length = xs.length) (h1 : as.length ≤ 1) (h2 : tstBs as = true) : PTs X xs (tB X.K (evtests Φ T.G as)) := by
  match as, xs, hl, h1, h2, h with
  | [], [], _, _, _, _ => exact snd_ptsNil
  | [a], [x], _, _, h2, h =>
    have h2 : (tstB a && true) = true := h2
    exact snd_ptsOne ((h.one a x rfl rfl).pt (and2 h2).1)
  | _ :: _ :: _, _, _, h1, _, _ => exact absurd h1 (by simp)
theorem noneC_of {e : Expr} (h : isNoneC e = true) : ∃ j p, e = .Constant .none j p := by
  unfold isNoneC at h
  split at h
  · exact ⟨_, _, rfl⟩
  · cases h
section
variable {T : Tab} {Φ : CallS} {k : Nat}
theorem SndE.plain {X : Cx} {a : E} {x : Expr} (h : PE X x (tO X.K (evo Φ T.G a))) (hp : plainTest x = true) : SndE T Φ X a x := ⟨h, fun _ => snd_tst hp h⟩
theorem two_of {sc : Scope} {es : List E} {x y : Expr} (h : chkEs T sc es [x, y] = true) : ∃ a b, es = [a, b] := by
  cases es with
  | nil => cases chkEs_len h
  | cons a es =>
    cases es with
    | nil => cases chkEs_len h
    | cons b es =>
      cases es with
      | nil => exact ⟨a, b, rfl⟩
      | cons _ _ => have := chkEs_len h; simp at this
theorem one_of {sc : Scope} {es : List E} {x : Expr} (h : chkEs T sc es [x] = true) : ∃ a, es = [a] := by
  cases es with
  | nil => cases chkEs_len h
  | cons a es =>
    cases es with
    | nil => exact ⟨a, rfl⟩
    | cons _ _ => have := chkEs_len h; simp at this
theorem last_of {p q : CmpOp} {y z : Expr} (h : notSet z = true) : lastMarks [p, q] [y, z] = false := by
  cases z <;> first | rfl | cases h
theorem ne_of_isEmpty {α : Type} {l : List α} (h : (!l.isEmpty) = true) : l ≠ [] := by
  intro e
  subst e
  cases h
theorem evo_and_reads {K : PySem.W.Frag} {es : List E} {σ : L2.St} {H : Hp} {Q : VK} (h : tO K (evo Φ T.G (.and es)) σ H Q) : tO K (evand Φ T.G es) σ H Q := by
  obtain ⟨e, F, o, e', he, n, hf, hQ⟩ := h
  rw [evo] at hf
  exact ⟨e, F, o, e', he, n, hf, hQ⟩
theorem evo_or_reads {K : PySem.W.Frag} {es : List E} {σ : L2.St} {H : Hp} {Q : VK} (h : tO K (evo Φ T.G (.or es)) σ H Q) : tO K (evor Φ T.G es) σ H Q := by
  obtain ⟨e, F, o, e', he, n, hf, hQ⟩ := h
  rw [evo] at hf
  exact ⟨e, F, o, e', he, n, hf, hQ⟩
theorem evo_and_readsT {K : PySem.W.Frag} {es : List E} {σ : L2.St} {H : Hp} {Q : Bool → Hp → Prop} (h : tTst K (evo Φ T.G (.and es)) σ H Q) : tTst K (evand Φ T.G es) σ H Q := by
  obtain ⟨e, F, o, e', d, b, he, n, hf, hQ⟩ := h
  rw [evo] at hf
  exact ⟨e, F, o, e', d, b, he, n, hf, hQ⟩
theorem evo_or_readsT {K : PySem.W.Frag} {es : List E} {σ : L2.St} {H : Hp} {Q : Bool → Hp → Prop} (h : tTst K (evo Φ T.G (.or es)) σ H Q) : tTst K (evor Φ T.G es) σ H Q := by
  obtain ⟨e, F, o, e', d, b, he, n, hf, hQ⟩ := h
  rw [evo] at hf
  exact ⟨e, F, o, e', d, b, he, n, hf, hQ⟩
theorem own_map (N : List Str) : ∀ own : List Nat, (ownN N own).map (·.2) = own
  | [] => rfl
  | i :: own => by
    have := own_map N own
    unfold ownN at this ⊢
    rw [List.map_cons, List.map_cons, this]
mutual
theorem chkE_star : ∀ {a : E} {sc : Scope} {x : Expr}, chkE T sc a x = true → notStar x = true
  | .frz a, sc, x, h => by simp only [chkE] at h; exact chkE_star (a := a) h
  | .nm i, sc, x, h => by cases x <;> first | rfl | simp [chkE] at h
  | .cst i, sc, x, h => by cases x <;> first | rfl | simp [chkE] at h
  | .glo i, sc, x, h => by cases x <;> first | rfl | simp [chkE] at h
  | .mv i, sc, x, h => by cases x <;> first | rfl | simp [chkE] at h
  | .tup i, sc, x, h => by cases x <;> first | rfl | simp [chkE] at h
  | .lst i, sc, x, h => by cases x <;> first | rfl | simp [chkE] at h
  | .op o i, sc, x, h => by cases x <;> first | rfl | simp [chkE] at h
  | .mth o a i, sc, x, h => by cases x <;> first | rfl | simp [chkE] at h
  | .chain _ _ _ _ _, sc, x, h => by cases x <;> first | rfl | simp [chkE] at h
  | .and i, sc, x, h => by cases x <;> first | rfl | simp [chkE] at h
  | .or i, sc, x, h => by cases x <;> first | rfl | simp [chkE] at h
  | .not i, sc, x, h => by cases x <;> first | rfl | simp [chkE] at h
  | .ife _ _ _, sc, x, h => by cases x <;> first | rfl | simp [chkE] at h
  | .slc _ _ _, sc, x, h => by cases x <;> first | rfl | simp [chkE] at h
  | .mut _ _ _, sc, x, h => by cases x <;> first | rfl | simp [chkE] at h
  | .call _ _, sc, x, h => by cases x <;> first | rfl | simp [chkE] at h
  | .cmp _ _ _ _ _ _, sc, x, h => by cases x <;> first | rfl | simp [chkE] at h
  | .cmp2 _ _ _ _ _ _ _ _ _ _ _, sc, x, h => by simp [chkE] at h
end
mutual
theorem snd1 : ∀ (a : E) {X : Cx} {sc : Scope}, Good T Φ k sc X → ∀ {x : Expr}, chkE T sc a x = true → SndE T Φ X a x
  | .nm i, X, sc, g, x, h => by
    cases x <;> simp only [chkE] at h <;> first | (cases h; done) | skip
    exact .plain (snd_nm g h) rfl
  | .cst p, X, sc, g, x, h => by
    cases x <;> simp only [chkE] at h <;> first | (cases h; done) | skip
    exact .plain (snd_cst h) rfl
  | .glo j, X, sc, g, x, h => by
    cases x <;> simp only [chkE] at h <;> first | (cases h; done) | skip
    exact .plain (snd_glo g (and2 h).1 (of_decide_eq_true (and2 h).2)) rfl
  | .mv i, X, sc, g, x, h => by
    cases x <;> simp only [chkE] at h <;> first | (cases h; done) | skip
    exact .plain (snd_mv g h) rfl
  | .tup es, X, sc, g, x, h => by
    cases x <;> simp only [chkE] at h <;> first | (cases h; done) | skip
    exact .plain (snd_tup (snds es g h).pa) rfl
  | .lst es, X, sc, g, x, h => by
    cases x <;> simp only [chkE] at h <;> first | (cases h; done) | skip
    exact .plain (snd_lst (snds es g h).pa) rfl
  | .op o es, X, sc, g, x, h => by
    have ind := fun {xs : List Expr} (h : chkEs T sc es xs = true) => snds es g h
    cases x <;> simp only [chkE] at h <;> first | (cases h; done) | skip
    · -- binary
      obtain ⟨h1, h2⟩ := and2 h
      obtain ⟨a, b, rfl⟩ := two_of h2
      obtain ⟨ra, rb⟩ := (ind h2).two a b _ _ rfl rfl
      exact .plain (snd_bin g (of_decide_eq_true h1) ra.pe rb.pe) rfl
    · -- unary
      obtain ⟨h1, h2⟩ := and2 h
      obtain ⟨h3, h4⟩ := and2 h1
      obtain rfl := of_decide_eq_true h3
      obtain rfl := of_decide_eq_true h4
      obtain ⟨a, rfl⟩ := one_of h2
      exact ⟨snd_neg ((ind h2).one a _ rfl rfl).pe, fun z => by simp [tstB] at z⟩
    · -- comparison
      split at h
      · rcases (Bool.or_eq_true _ _).mp h with h | h
        · obtain ⟨h1, h2⟩ := and2 h
          obtain ⟨h3, h4⟩ := and2 h1
          have h3 := of_decide_eq_true h3
          obtain ⟨a, b, rfl⟩ := two_of h2
          obtain ⟨ra, rb⟩ := (ind h2).two a b _ _ rfl rfl
          exact ⟨snd_cmp g h3 h4 ra.pe rb.pe, fun _ => snd_tcmp g h3 h4 ra.pe rb.pe⟩
        · obtain ⟨h1, h2⟩ := and2 h
          obtain ⟨h3, h4⟩ := and2 h1
          obtain ⟨j, p, rfl⟩ := noneC_of h3
          obtain ⟨a, rfl⟩ := one_of h2
          have ra := (ind h2).one a _ rfl rfl
          rcases (Bool.or_eq_true _ _).mp h4 with h | h
          · obtain ⟨h5, h6⟩ := and2 h
            obtain rfl := of_decide_eq_true h5
            obtain rfl := of_decide_eq_true h6
            exact ⟨snd_isN ra.pe, fun _ => snd_tisN ra.pe⟩
          · obtain ⟨h5, h6⟩ := and2 h
            obtain rfl := of_decide_eq_true h5
            obtain rfl := of_decide_eq_true h6
            exact ⟨snd_notN ra.pe, fun _ => snd_tnotN ra.pe⟩
      · cases h
    · -- a call of a built-in
      rename_i f args kws pos
      split at h <;> first | (cases h; done) | skip
      rename_i y p
      split at h
      · rename_i ts
        obtain ⟨h1, h2⟩ := and2 h
        obtain ⟨h3, h4⟩ := and2 h1
        obtain rfl := of_decide_eq_true h3
        split at h2 <;> first | (cases h2; done) | skip
        rename_i u w
        obtain ⟨h5, h6⟩ := and2 h2
        obtain ⟨h7, h8⟩ := and2 h5
        obtain ⟨h9, h10⟩ := and2 h7
        obtain ⟨a, rfl⟩ := one_of h8
        have ra := (ind h8).one a _ rfl rfl
        split at h6
        · obtain ⟨h11, h12⟩ := and2 h6
          exact .plain (snd_isiT g h4 h9 h12 (of_decide_eq_true h11) ra.pe) rfl
        · split at h6
          · exact .plain (snd_isi1 g h4 h9 h6 ra.pe) rfl
          · cases h6
      · split at h
        · rename_i z fv n hb
          obtain ⟨h1, h2⟩ := and2 h
          obtain ⟨h3, h4⟩ := and2 h1
          obtain ⟨h5, h6⟩ := and2 h3
          obtain rfl := of_decide_eq_true h5
          exact .plain (snd_blt g hb h6 (of_decide_eq_true h4) (chkEs_star h2) (ind h2).pa) rfl
        · cases h
    · -- subscripts
      split at h
      · split at h
        · obtain ⟨h1, h2⟩ := and2 h
          obtain ⟨h3, h4⟩ := and2 h1
          obtain rfl := of_decide_eq_true h4
          obtain ⟨a, rfl⟩ := one_of h2
          exact .plain (snd_rev h3 ((ind h2).one a _ rfl rfl).pe) rfl
        · cases h
      · obtain ⟨h1, h2⟩ := and2 h
        obtain ⟨h3, h4⟩ := and2 h1
        obtain rfl := of_decide_eq_true h3
        obtain ⟨a, b, rfl⟩ := two_of h2
        obtain ⟨ra, rb⟩ := (ind h2).two a b _ _ rfl rfl
        exact .plain (snd_idx h4 ra.pe rb.pe) rfl
  | .mth o a es, X, sc, g, x, h => by
    have ia := fun {y : Expr} (h : chkE T sc a y = true) => snd1 a g h
    have ind := fun {xs : List Expr} (h : chkEs T sc es xs = true) => snds es g h
    cases x <;> simp only [chkE] at h <;> first | (cases h; done) | skip
    split at h <;> first | (cases h; done) | skip
    split at h <;> first | (cases h; done) | skip
    rename_i hm
    obtain ⟨h1, h2⟩ := and2 h
    obtain ⟨h3, h4⟩ := and2 h1
    obtain ⟨h5, h6⟩ := and2 h3
    obtain ⟨h7, h8⟩ := and2 h5
    obtain ⟨h9, h10⟩ := and2 h7
    obtain ⟨h11, h12⟩ := and2 h9
    obtain rfl := of_decide_eq_true h11
    exact .plain (snd_mth g hm (of_decide_eq_true h12) h10 h8 (chkEs_star h2) (chkEs_len h2) (ia h4).pe (ind h2).pa) rfl
  | .chain o1 o2 a b c, X, sc, g, x, h => by
    have ia := fun {y : Expr} (h : chkE T sc a y = true) => snd1 a g h
    have ib := fun {y : Expr} (h : chkE T sc b y = true) => snd1 b g h
    have ic := fun {y : Expr} (h : chkE T sc c y = true) => snd1 c g h
    cases x <;> simp only [chkE] at h <;> first | (cases h; done) | skip
    split at h <;> first | (cases h; done) | skip
    rename_i p q y z
    obtain ⟨h1, h2⟩ := and2 h
    obtain ⟨h3, h4⟩ := and2 h1
    obtain ⟨h5, h6⟩ := and2 h3
    obtain ⟨h7, h8⟩ := and2 h5
    obtain ⟨h9, h10⟩ := and2 h7
    obtain ⟨h11, h12⟩ := and2 h9
    obtain ⟨h13, h14⟩ := and2 h11
    obtain ⟨h15, h16⟩ := and2 h13
    obtain ⟨h17, h18⟩ := and2 h15
    have hp := of_decide_eq_true h17
    have hq := of_decide_eq_true h18
    have hm : lastMarks [p, q] [y, z] = false := last_of h14
    exact ⟨snd_chain g hp hq hm (ia h6).pe (ib h4).pe (ic h2).pe, fun _ => snd_tchain g hp hq hm (ia h6).pe (ib h4).pe (ic h2).pe⟩
  | .and es, X, sc, g, x, h => by
    have ind := fun {xs : List Expr} (h : chkEs T sc es xs = true) => snds es g h
    cases x <;> simp only [chkE] at h <;> first | (cases h; done) | skip
    obtain ⟨h1, h2⟩ := and2 h
    obtain ⟨h3, h4⟩ := and2 h1
    obtain rfl := of_decide_eq_true h3
    have ne := ne_of_isEmpty h4
    have r := ind h2
    exact ⟨PE.weak (r.and _ ne) fun σ H Q => evo_and_reads, fun ht => PT.weak (r.wand _ ne ht).pt fun σ H Q => evo_and_readsT⟩
  | .or es, X, sc, g, x, h => by
    have ind := fun {xs : List Expr} (h : chkEs T sc es xs = true) => snds es g h
    cases x <;> simp only [chkE] at h <;> first | (cases h; done) | skip
    obtain ⟨h1, h2⟩ := and2 h
    obtain ⟨h3, h4⟩ := and2 h1
    obtain rfl := of_decide_eq_true h3
    have ne := ne_of_isEmpty h4
    have r := ind h2
    exact ⟨PE.weak (r.or _ ne) fun σ H Q => evo_or_reads, fun ht => PT.weak (r.wor _ ne ht).pt fun σ H Q => evo_or_readsT⟩
  | .not a, X, sc, g, x, h => by
    have ia := fun {y : Expr} (h : chkE T sc a y = true) => snd1 a g h
    cases x <;> simp only [chkE] at h <;> first | (cases h; done) | skip
    obtain ⟨h1, h2⟩ := and2 h
    obtain ⟨h3, h4⟩ := and2 h1
    obtain rfl := of_decide_eq_true h3
    exact ⟨snd_not (ia h4).pe, fun _ => snd_tnot ((ia h4).pt h2)⟩
  | .ife t a b, X, sc, g, x, h => by
    have it := fun {y : Expr} (h : chkE T sc t y = true) => snd1 t g h
    have ia := fun {y : Expr} (h : chkE T sc a y = true) => snd1 a g h
    have ib := fun {y : Expr} (h : chkE T sc b y = true) => snd1 b g h
    cases x <;> simp only [chkE] at h <;> first | (cases h; done) | skip
    obtain ⟨h1, h2⟩ := and2 h
    obtain ⟨h3, h4⟩ := and2 h1
    obtain ⟨h5, h6⟩ := and2 h3
    exact ⟨snd_ife ((it h5).pt h6) (ia h4).pe (ib h2).pe, fun z => by simp [tstB] at z⟩
  | .slc a lo hi, X, sc, g, x, h => by
    have ia := fun {y : Expr} (h : chkE T sc a y = true) => snd1 a g h
    have il := fun {y : Option Expr} (h : chkO T sc lo y = true) => sndo lo g h
    have ih := fun {y : Option Expr} (h : chkO T sc hi y = true) => sndo hi g h
    cases x <;> simp only [chkE] at h <;> first | (cases h; done) | skip
    split at h <;> first | (cases h; done) | skip
    split at h <;> first | (cases h; done) | skip
    obtain ⟨h1, h2⟩ := and2 h
    obtain ⟨h3, h4⟩ := and2 h1
    exact .plain (snd_slc (ia h3).pe (il h4) (ih h2)) rfl
  | .mut m i es, X, sc, g, x, h => by
    have ind := fun {xs : List Expr} (h : chkEs T sc es xs = true) => snds es g h
    cases x <;> simp only [chkE] at h <;> first | (cases h; done) | skip
    split at h <;> first | (cases h; done) | skip
    split at h <;> first | (cases h; done) | skip
    obtain ⟨h1, h2⟩ := and2 h
    obtain ⟨h3, h4⟩ := and2 h1
    obtain ⟨h5, h6⟩ := and2 h3
    obtain ⟨h7, h8⟩ := and2 h5
    obtain rfl := of_decide_eq_true h8
    exact .plain (snd_mut g h7 h6 (of_decide_eq_true h4) (chkEs_star h2) (chkEs_len h2) (ind h2).pa) rfl
  | .call f es, X, sc, g, x, h => by
    have ind := fun {xs : List Expr} (h : chkEs T sc es xs = true) => snds es g h
    cases x <;> simp only [chkE] at h <;> first | (cases h; done) | skip
    split at h <;> first | (cases h; done) | skip
    obtain ⟨h1, h2⟩ := and2 h
    obtain ⟨h3, h4⟩ := and2 h1
    exact .plain (snd_call g h3 (of_decide_eq_true h4) (chkEs_star h2) (ind h2).pa (chkEs_len h2)) rfl
  | .cmp own t ik as tests elt, X, sc, g, x, h => by
    have ind := fun {xs : List Expr} (h : chkEs T sc as xs = true) => snds as g h
    have it := fun {Y : Cx} {sd : Scope} (gY : Good T Φ k sd Y) {xs : List Expr} (h : chkEs T sd tests xs = true) => snds tests gY h
    have ie := fun {Y : Cx} {sd : Scope} (gY : Good T Φ k sd Y) {y : Expr} (h : chkE T sd elt y = true) => snd1 elt gY h
    cases x <;> simp only [chkE] at h <;> first | (cases h; done) | skip
    split at h <;> first | (cases h; done) | skip
    obtain ⟨h1, h2⟩ := and2 h
    obtain ⟨h3, h4⟩ := and2 h1
    obtain ⟨h5, h6⟩ := and2 h3
    obtain ⟨h7, h8⟩ := and2 h5
    obtain ⟨h9, h10⟩ := and2 h7
    obtain ⟨h11, h12⟩ := and2 h9
    obtain ⟨h13, h14⟩ := and2 h11
    obtain ⟨h15, h16⟩ := and2 h13
    obtain ⟨h17, h18⟩ := and2 h15
    obtain rfl := of_decide_eq_true h17
    refine .plain (snd_lcmp g (ow := ownN T.N own) (own_map T.N own) (of_decide_eq_true h10) (by rw [g.N, g.scope]; exact blkOk_by h16) (chkI_set h18) (snd_I g h18 (fun a y e z => ?_) fun xs z => (ind z).pa) (fun j hj => ?_) (fun s H C cl fp => ?_) (fun s H C cl fp => ?_) fun s H C cl fp => ?_) rfl
    · subst e
      exact ((ind (xs := [y]) (by simp [chkEs, z, chkE_star z])).one a y rfl rfl).pe
    · have := List.all_eq_true.mp h12 j hj
      simpa using this
    · have h14 : chkP T.N (stB _) t _ = true := h14
      rw [← g.N] at h14
      refine PG.weak (snd_pat (X := X.blk s H _ (compEnvC _ cl C X.env) fp) (by show X.N.Nodup; rw [g.N]; exact g.nd) g.calm (stOk_blk s H _ C cl fp) h14) fun v σ H Q q => q
    · exact (it (g.blk s H _ C cl fp) h4).pts (chkEs_len h4) (of_decide_eq_true h6) h8
    · exact (ie (g.blk s H _ C cl fp) h2).pe
  | .cmp2 _ _ _ _ _ _ _ _ _ _ _, X, sc, g, x, h => by simp [chkE] at h
  | .frz a, X, sc, g, x, h => by
    simp only [chkE] at h
    exact ⟨snd_frz (snd1 a g h).pe, fun z => by simp [tstB] at z⟩
theorem snds : ∀ (as : List E) {X : Cx} {sc : Scope}, Good T Φ k sc X → ∀ {xs : List Expr}, chkEs T sc as xs = true → SndL T Φ X as xs
  | [], X, sc, g, xs, h => by
    obtain rfl := chkEs_nil h
    exact ⟨snd_nil, fun _ n => absurd rfl n, fun _ n => absurd rfl n, fun _ n => absurd rfl n, fun _ n => absurd rfl n, (fun a x e => by cases e), (fun a b x y e => by cases e)⟩
  | a :: as, X, sc, g, xs, h => by
    obtain ⟨y, ys, rfl, h1, h2, h3⟩ := chkEs_cons h
    have ha := snd1 a g h2
    have hs := snds as g h3
    refine ⟨snd_cons ha.pe hs.pa h1, fun pos _ => ?_, fun pos _ => ?_, fun pos _ ht => ?_, fun pos _ ht => ?_, fun b x e1 e2 => ?_, fun b c x z e1 e2 => ?_⟩
    · cases as with
      | nil => obtain rfl := chkEs_nil h3; exact snd_and1 ha.pe
      | cons b bs =>
        obtain ⟨z, zs, rfl, _, _, _⟩ := chkEs_cons h3
        exact snd_and2 ha.pe (hs.and pos (by simp))
    · cases as with
      | nil => obtain rfl := chkEs_nil h3; exact snd_or1 ha.pe
      | cons b bs =>
        obtain ⟨z, zs, rfl, _, _, _⟩ := chkEs_cons h3
        exact snd_or2 ha.pe (hs.or pos (by simp))
    · have ht := and2 (show (tstB a && tstBs as) = true from ht)
      cases as with
      | nil => obtain rfl := chkEs_nil h3; exact snd_tand1 (ha.pt ht.1)
      | cons b bs =>
        obtain ⟨z, zs, rfl, _, _, _⟩ := chkEs_cons h3
        exact snd_tand2 (ha.pt ht.1) (hs.wand pos (by simp) ht.2)
    · have ht := and2 (show (tstB a && tstBs as) = true from ht)
      cases as with
      | nil => obtain rfl := chkEs_nil h3; exact snd_tor1 (ha.pt ht.1)
      | cons b bs =>
        obtain ⟨z, zs, rfl, _, _, _⟩ := chkEs_cons h3
        exact snd_tor2 (ha.pt ht.1) (hs.wor pos (by simp) ht.2)
    · cases e1
      cases e2
      exact ha
    · cases e1
      cases e2
      exact ⟨ha, hs.one c z rfl rfl⟩
theorem sndo : ∀ (a : Option E) {X : Cx} {sc : Scope}, Good T Φ k sc X → ∀ {x : Option Expr}, chkO T sc a x = true → PO X x (tOpt X.K (evopt Φ T.G a))
  | none, X, sc, g, x, h => by
    cases x with
    | none => exact snd_onone
    | some y => simp [chkO] at h
  | some a, X, sc, g, x, h => by
    cases x with
    | none => simp [chkO] at h
    | some y =>
      simp only [chkO] at h
      exact snd_osome (snd1 a g h).pe
end
end
end Sw
set_option maxHeartbeats 1000000
/-! Sw, part 18: statements. -/
namespace Sw
open PySem PySem.Spec PyProof.Rows L2
/-! ### which text -/
def isComp : Expr → Bool
  | .ListComp .. => true
  | .SetComp .. => true
  | .DictComp .. => true
  | _ => false
def isSeqT : Expr → Bool
  | .Tuple .. => true
  | .List .. => true
  | _ => false
def isTupV : Expr → Bool
  | .Tuple .. => true
  | _ => false
theorem sw_no {v : Expr} (h : isComp v = false) (tg : Option Expr) (l : Nat) (env : PySem.Env) : swapsWith v tg l env = pure false := by
  cases v <;> first | (cases h; done) | rfl
theorem swS_no {v tg : Expr} (h : isComp v = false) (l : Nat) (env : PySem.Env) : swapsWithSole [tg] v l env = pure false := sw_no h _ _ _
theorem swSt_no {v tg : Expr} (h : (isSeqT tg && isTupV v) = false) (env : PySem.Env) : swappedStores [tg] v env = pure none := by
  cases tg <;> first | rfl | (cases v <;> first | rfl | cases h)
def ownsN (scope : Scope) (y : Str) : Bool := scope.names.any fun (n, k) => n == y && (k == .local || k == .cell)
theorem sw_false {elt : Expr} {gs : List Comprehension} {scope : Scope} {pos py : Pos} {y : Str} {l : Nat} {env : PySem.Env} (h : (env.kindOf y == some .local && py.line == pos.line && !(ownsN scope y)) = false) :
    swapsWith (.ListComp elt gs scope pos) (some (.Name y py)) l env = pure false := by
  unfold swapsWith
  have e : (env.blockKind == .function && env.kindOf y == some .local && py.line == pos.line && !(scope.names.any fun (n, k) => n == y && (k == .local || k == .cell))) = false := by
    have h : (env.kindOf y == some .local && py.line == pos.line && !(scope.names.any fun (n, k) => n == y && (k == .local || k == .cell))) = false := h
    rw [Bool.and_assoc, Bool.and_assoc]
    rw [Bool.and_assoc] at h
    rw [h, Bool.and_false]
  show (pure _ : Sem Bool) = pure false
  exact congrArg pure e
def swapC (sc : Scope) (ts vs : List Expr) : Option (Option (List Str)) :=
  if !(ts.length == 2 || ts.length == 3) || vs.length != ts.length then some none
  else if vs.any fun | .Starred .. => true | _ => false then some none
  else
    if (ts.filterMap fun
      | .Name id pos => if sc.names.lookup id == some .local && pos.line == (ts.head?.map (·.pos.line)).getD 0 then some id else none
      | _ => none).length != ts.length || (ts.filterMap fun
      | .Name id pos => if sc.names.lookup id == some .local && pos.line == (ts.head?.map (·.pos.line)).getD 0 then some id else none
      | _ => none).eraseDups.length != (ts.filterMap fun
      | .Name id pos => if sc.names.lookup id == some .local && pos.line == (ts.head?.map (·.pos.line)).getD 0 then some id else none
      | _ => none).length then some none
    else if vs.all (foldedForSure 8) then some none
    else if vs.all (constantsAlone 8) then none
    else some (some (ts.filterMap fun
      | .Name id pos => if sc.names.lookup id == some .local && pos.line == (ts.head?.map (·.pos.line)).getD 0 then some id else none
      | _ => none))
theorem sw_pair {ts vs : List Expr} {kt k2 : Nat} {pt pt2 : Pos} {env : PySem.Env} {r : Option (List Str)} (hk : env.scope.kind = .function) (h : swapC env.scope ts vs = some r) : swappedStores [.Tuple ts kt pt] (.Tuple vs k2 pt2) env = pure r := by
  have hb : env.blockKind = .function := by unfold Env.blockKind; rw [hk]; rfl
  unfold swapC at h
  unfold swappedStores
  have e1 : (ScopeKind.function != ScopeKind.function) = false := by decide
  simp only [hb, e1, Bool.or_false]
  have ek : ∀ id, env.kindOf id = env.scope.names.lookup id := fun _ => rfl
  simp only [ek]
  split at h
  · rename_i c
    cases h
    exact if_pos c
  rename_i c
  refine (if_neg c).trans ?_
  split at h
  · rename_i c
    cases h
    exact if_pos c
  rename_i c
  refine (if_neg c).trans ?_
  split at h
  · rename_i c
    cases h
    exact if_pos c
  rename_i c
  refine (if_neg c).trans ?_
  split at h
  · rename_i c
    cases h
    exact if_pos c
  rename_i c
  refine (if_neg c).trans ?_
  split at h
  · cases h
  rename_i c
  cases h
  exact if_neg c

def nmsB (N : List Str) (st : Str → Bool) : List Nat → List Expr → Bool
  | [], [] => true
  | i :: is, x :: xs => chkP N st (.nm i) x && nmsB N st is xs
  | _, _ => false
/-- the ways of a store of several -/
def parB (sc : Scope) (ts vs : List Expr) : Bool := match swapC sc ts vs with
  | some none => true
  | some (some ns) => (match ts, vs with
    | [.Name y _, .Name z _], [_, _] => decide (ns = [y, z]) && lookB sc y .local && lookB sc z .local
    | [.Name y _, .Name z _, .Name w _], [_, _, _] => decide (ns = [y, z, w]) && lookB sc y .local && lookB sc z .local && lookB sc w .local
    | _, _ => false)
  | none => false
def tupNo (sc : Scope) (tg v : Expr) : Bool := match tg, v with
  | .Tuple ts _ _, .Tuple vs _ _ => decide (swapC sc ts vs = some none)
  | _, _ => false
def asgB (sc : Scope) (tg v : Expr) : Bool := match v with
  | .ListComp _ _ scope pos => (match tg with
    | .Name y py => !(decide (sc.names.lookup y = some .local) && py.line == pos.line && !(ownsN scope y))
    | .Tuple _ _ _ => true
    | _ => false)
  | v => !isComp v && (!(isSeqT tg && isTupV v) || tupNo sc tg v)
def swB (sc : Scope) (tg v : Expr) : Bool := match v, tg with
  | .ListComp _ _ scope pos, .Name y py => lookB sc y .local && py.line == pos.line && !(ownsN scope y)
  | _, _ => false
def isCmp : E → Bool
  | .cmp .. => true
  | _ => false
def augOp : Op → Option Operator
  | .add => some .Add
  | .sub => some .Sub
  | _ => none
mutual
def chkT (W : Tab) (sc : Scope) : T → Stmt → Bool
  | .asg t a, s => (match s with
    | .Assign [tg] v _ => chkP W.N (stB sc) t tg && chkE W sc a v && (asgB sc tg v || (isCmp a && swB sc tg v))
    | _ => false)
  | .par is es, s => (match s with
    | .Assign [.Tuple ts _ _] (.Tuple vs _ _) _ => nmsB W.N (stB sc) is ts && decide is.Nodup && decide (is.length ≤ 20) && chkEs W sc es vs && parB sc ts vs
    | _ => false)
  | .aug i o a, s => (match s with
    | .AugAssign (.Name x _) op v _ => visB W.N sc i x && stB sc x && decide (augOp o = some op) && chkE W sc a v
    | _ => false)
  | .sto i k a, s => (match s with
    | .Assign [.Subscript (.Name x _) ix _] v _ => visB W.N sc i x && notSlice ix && chkE W sc k ix && chkE W sc a v && !isComp v
    | _ => false)
  | .augs _ _ _ _, _ => false
  | .ex a, s => (match s with
    | .Expr v _ => chkE W sc a v && !isComp v
    | _ => false)
  | .ret a, s => (match s with
    | .Return (some v) _ => chkE W sc a v
    | _ => false)
  | .ret0, s => (match s with
    | .Return none _ => true
    | _ => false)
  | .ifs t a b, s => (match s with
    | .If c x y _ => chkE W sc t c && tstB t && chkTs W sc a x && chkTs W sc b y
    | _ => false)
  | .fors t k as body, s => (match s with
    | .For tg iter b [] _ => chkP W.N (stB sc) t tg && chkI sc (isTup tg) k (fun xs => chkEs W sc as xs) iter && chkTs W sc body b
    | _ => false)
  | .whl _ t body, s => (match s with
    | .While c b [] _ => chkE W sc t c && tstB t && chkTs W sc body b
    | _ => false)
  | .brk, s => (match s with
    | .Break _ => true
    | _ => false)
  | .cont, s => (match s with
    | .Continue _ => true
    | _ => false)
  | .pass, s => (match s with
    | .Pass _ => true
    | _ => false)
  | .never, _ => true
def chkTs (W : Tab) (sc : Scope) : List T → List Stmt → Bool
  | [], ss => ss.isEmpty
  | a :: as, ss => (match ss with
    | s :: ss => chkT W sc a s && chkTs W sc as ss
    | _ => false)
end
/-! ### readings -/
def ndOk (K : PySem.W.Frag) (l : List Nat) (D : Ends) (σ : L2.St) (H : Hp) (F : List Addr) (e' : En) : Fl → Prop
  | .nx => ∀ σ' H' F', EnvRep K H' σ' e' F' → F'.Nodup → Stp H F H' F' → Agr l σ σ' → D.nx σ' H'
  | .bk => ∀ σ' H' F', EnvRep K H' σ' e' F' → F'.Nodup → Stp H F H' F' → Agr l σ σ' → D.bk σ' H'
  | .ct => ∀ σ' H' F', EnvRep K H' σ' e' F' → F'.Nodup → Stp H F H' F' → Agr l σ σ' → D.ct σ' H'
  | .rt d => ∀ v σ' H' Fd F', Rep K H' v d Fd → EnvRep K H' σ' e' F' → (Fd ++ F').Nodup → Stp H F H' (Fd ++ F') → Agr l σ σ' → D.rt v H'
def tT (K : PySem.W.Frag) (f : En → Option (Fl × En)) (l : List Nat) : TS := fun D σ H => ∃ e F fl e', EnvRep K H σ e F ∧ F.Nodup ∧ f e = some (fl, e') ∧ ndOk K l D σ H F e' fl
section
variable {K : PySem.W.Frag} {l l' m : List Nat} {D D' : Ends} {σ σ1 : L2.St} {H H1 : Hp} {F F1 : List Addr} {e' : En} {fl : Fl}
/-- from a later place -/
theorem ndOk.step (h : ndOk K m D σ H F e' fl) (s : Stp H F H1 F1) (a : Agr l σ σ1) (hl : ∀ j, j ∈ l → j ∈ m) (hl' : ∀ j, j ∈ l' → j ∈ m) : ndOk K l' D σ1 H1 F1 e' fl := by
  cases fl with
  | nx => exact fun σ' H' F' r n q g => h σ' H' F' r n (s.trans q) ((a.mono hl).trans (g.mono hl'))
  | bk => exact fun σ' H' F' r n q g => h σ' H' F' r n (s.trans q) ((a.mono hl).trans (g.mono hl'))
  | ct => exact fun σ' H' F' r n q g => h σ' H' F' r n (s.trans q) ((a.mono hl).trans (g.mono hl'))
  | rt d => exact fun v σ' H' Fd F' r r2 n q g => h v σ' H' Fd F' r r2 n (s.trans q) ((a.mono hl).trans (g.mono hl'))
/-- other ends -/
theorem ndOk.ends (h : ndOk K l D σ H F e' fl) (h1 : fl = .nx → D'.nx = D.nx) (h2 : fl = .bk → D'.bk = D.bk) (h3 : fl = .ct → D'.ct = D.ct) (h4 : D'.rt = D.rt) : ndOk K l D' σ H F e' fl := by
  cases fl with
  | nx => exact fun σ' H' F' r n q g => by rw [h1 rfl]; exact h σ' H' F' r n q g
  | bk => exact fun σ' H' F' r n q g => by rw [h2 rfl]; exact h σ' H' F' r n q g
  | ct => exact fun σ' H' F' r n q g => by rw [h3 rfl]; exact h σ' H' F' r n q g
  | rt d => exact fun v σ' H' Fd F' r r2 n q g => by rw [h4]; exact h v σ' H' Fd F' r r2 n q g
end
/-- a body of a def -/
structure DefCx (X : Cx) : Prop where
  fn : X.fn = fun _ => true
  own : PassesOwn (model X.prog X.w) X.A X.env X.xe
  kind : X.env.scope.kind = .function
section
variable {T : Tab} {Φ : CallS} {k : Nat} {sc : Scope} {X : Cx}
theorem stOk_def (g : Good T Φ k sc X) (d : DefCx X) : StOk X (stB sc) := by
  refine ⟨fun x h => ?_, fun x h => .inl (by rw [d.fn])⟩
  unfold stB at h
  rw [Bool.or_eq_true] at h
  rw [g.scope]
  rcases h with h | h
  · exact .inl (look_of h)
  · exact .inr (look_of h)
theorem pat_def {t : Pat} {tg : Expr} (g : Good T Φ k sc X) (d : DefCx X) (h : chkP T.N (stB sc) t tg = true) : PG X tg (tG X.K t) :=
  snd_pat (by rw [g.N]; exact g.nd) g.calm (stOk_def g d) (by rw [g.N]; exact h)
theorem name_def {i : Nat} {tg : Expr} (g : Good T Φ k sc X) (d : DefCx X) (h : chkP T.N (stB sc) (.nm i) tg = true) : PG X tg (gName i) ∧ ∃ y pos, tg = .Name y pos ∧ X.N[i]? = some y ∧ stB sc y = true := by
  cases tg <;> simp only [chkP] at h <;> first | (cases h; done) | skip
  obtain ⟨h1, h2⟩ := and2 h
  have h1 := of_decide_eq_true h1
  have ok := stOk_def g d
  refine ⟨pg_name (by rw [g.N]; exact g.nd) (by rw [g.N]; exact h1) (ok.loc _ h2) (ok.fn _ h2), _, _, rfl, by rw [g.N]; exact h1, h2⟩
theorem assign1 {tg : Expr} {t : Pat} {st : Str → Bool} (h : chkP X.N st t tg = true) : (assignEach [tg] X.env).map (·.2) = [assign tg X.env] := by
  have : notStar tg = true := by
    cases tg <;> first | rfl | (cases t <;> simp [chkP] at h)
  rw [assign_of this] <;> rfl
/-- the readings of a store -/
theorem asg_imm {te : TE} {t : Pat} {D : Ends} {σ : L2.St} {H : Hp} {e e1 e2 : En} {F : List Addr} {a : E} {p : P} (he : EnvRep X.K H σ e F) (n : F.Nodup) (h1 : evo Φ T.G a e = some (.tmp (.imm p), e1)) (h2 : bindP t p e1 = some e2)
    (hQ : ndOk X.K (asgP t) D σ H F e2 .nx) : tAsg (tO X.K (evo Φ T.G a)) (tG X.K t) D σ H := by
  refine tO_mk he n h1 fun v H1 Fd F1 ox he1 n1 s1 => ?_
  obtain ⟨q1, rfl⟩ := (show Rep X.K H1 v (.imm p) Fd from ox).imm_of
  exact ⟨e1, F1, p, e2, he1, nd_right n1, q1, h2, fun σ' F' r nd sub ag => hQ σ' H1 F' r nd (stp_pick (stp_drop s1) sub) ag⟩
theorem asg_lst {i : Nat} {D : Ends} {σ : L2.St} {H : Hp} {e e1 : En} {F : List Addr} {a : E} {ps : List P} (he : EnvRep X.K H σ e F) (n : F.Nodup) (h1 : evo Φ T.G a e = some (.tmp (.lst ps), e1))
    (hQ : ndOk X.K [i] D σ H F (e1.set i (some (.lst ps))) .nx) : tO X.K (evo Φ T.G a) σ H fun v H1 => gName i v σ H1 D.nx := by
  refine tO_mk he n h1 fun v H1 Fd F1 ox he1 n1 s1 => ?_
  have ox : Rep X.K H1 v (.lst ps) Fd := ox
  obtain ⟨F', r1, r2, r3⟩ := he1.setD ox i
  exact hQ _ H1 F' r1 (r3 n1) (stp_pick s1 fun a z => List.mem_append.mpr (r2 a z)) agr_set
theorem ex_asg {t : Pat} {a : E} {e e' : En} {fl : Fl} (h : ex Φ T.G (.asg t a) e = some (fl, e')) : ∃ e1, fl = .nx ∧ ((∃ p, evo Φ T.G a e = some (.tmp (.imm p), e1) ∧ bindP t p e1 = some e') ∨
    ∃ i ps, t = .nm i ∧ evo Φ T.G a e = some (.tmp (.lst ps), e1) ∧ e' = e1.set i (some (.lst ps))) := by
  simp only [ex] at h
  obtain ⟨⟨o, e1⟩, h1, h⟩ := bind_some h
  obtain ⟨e2, h2, h⟩ := bind_some h
  cases h
  cases o with
  | slot i => cases h2
  | tmp d =>
    cases d with
    | imm p => exact ⟨e1, rfl, .inl ⟨p, h1, h2⟩⟩
    | lst ps =>
      cases t with
      | tp ts => cases h2
      | nm i =>
        cases h2
        exact ⟨e1, rfl, .inr ⟨i, ps, rfl, h1, rfl⟩⟩
theorem asgB_sw {tg v : Expr} {t : Pat} {st : Str → Bool} (g : Good T Φ k sc X) (dk : DefCx X) (h : asgB sc tg v = true) (l : Nat) : swapsWithSole [tg] v l X.env = pure false ∧ swappedStores [tg] v X.env = pure none := by
  unfold asgB at h
  split at h
  · split at h
    · rename_i y py
      refine ⟨sw_false (l := l) ?_, rfl⟩
      rw [Bool.not_eq_true'] at h
      have e : (X.env.kindOf y == some NameKind.local) = decide (sc.names.lookup y = some .local) := by
        unfold Env.kindOf
        rw [g.scope]
        cases hq : (sc.names.lookup y == some NameKind.local) with
        | true => rw [decide_eq_true (by simpa using hq)]
        | false => rw [decide_eq_false (by simpa using hq)]
      rw [e]
      exact h
    · exact ⟨rfl, rfl⟩
    · cases h
  · obtain ⟨h1, h2⟩ := and2 h
    rw [Bool.not_eq_true'] at h1
    rcases (Bool.or_eq_true _ _).mp h2 with h2 | h2
    · rw [Bool.not_eq_true'] at h2
      exact ⟨swS_no h1 _ _, swSt_no h2 _⟩
    · refine ⟨swS_no h1 _ _, ?_⟩
      unfold tupNo at h2
      split at h2
      · exact sw_pair dk.kind (by rw [g.scope]; exact of_decide_eq_true h2)
      · cases h2
theorem snd_asg {t : Pat} {a : E} {tg v : Expr} {pos : Pos} (g : Good T Φ k sc X) (d : DefCx X) (h1 : chkP T.N (stB sc) t tg = true) (h2 : chkE T sc a v = true) (h3 : asgB sc tg v = true) : PS X (.Assign [tg] v pos) (tT X.K (ex Φ T.G (.asg t a)) (asgP t)) := by
  obtain ⟨w1, w2⟩ := asgB_sw (t := t) (st := stB sc) g d h3 pos.line
  have w3 : (assignEach [tg] X.env).map (·.2) = [assign tg X.env] := assign1 (by rw [g.N]; exact h1)
  have hv := (snd1 a g h2).pe
  refine ⟨fun pins s σ H D I h => ?_⟩
  obtain ⟨e, F, fl, e', he, n, hf, hQ⟩ := h
  obtain ⟨e1, rfl, ⟨p, g1, g2⟩ | ⟨i, ps, rfl, g1, rfl⟩⟩ := ex_asg hf
  · exact (ps_asg hv (pat_def g d h1) w1 w2 w3).run pins s σ H D I (asg_imm (te := tO X.K (evo Φ T.G a)) he n g1 g2 hQ)
  · exact (ps_asg hv (name_def g d h1).1 w1 w2 w3).run pins s σ H D I (asg_lst he n g1 (by simpa [asgP] using hQ))
/-- a comprehension's parts -/
theorem cmp_of {own : List Nat} {t : Pat} {ik : IK} {as tests : List E} {elt : E} {v : Expr} (g : Good T Φ k sc X) (h : chkE T sc (.cmp own t ik as tests elt) v = true) :
    ∃ x tg iter ifs scope pos, v = .ListComp x [⟨tg, iter, ifs, 0⟩] scope pos ∧ PI X tg iter (tI X.K ik (evos Φ T.G as)) ∧ BlkOk X.N X.env.scope scope (ownN T.N own) ∧ notSet iter = true ∧ own.Nodup ∧ (∀ j ∈ asgP t, j ∈ own) ∧
      (∀ (s : Shared) (H : Hp) (C : Addr) (cl : List (Str × Addr)) (fp : List Addr), PG (X.blk s H scope (compEnvC scope cl C X.env) fp) tg (tG X.K t)) ∧
      (∀ (s : Shared) (H : Hp) (C : Addr) (cl : List (Str × Addr)) (fp : List Addr), PTs (X.blk s H scope (compEnvC scope cl C X.env) fp) ifs (tB X.K (evtests Φ T.G tests))) ∧
      (∀ (s : Shared) (H : Hp) (C : Addr) (cl : List (Str × Addr)) (fp : List Addr), PE (X.blk s H scope (compEnvC scope cl C X.env) fp) x (tO X.K (evo Φ T.G elt))) := by
  have ind := fun {xs : List Expr} (h : chkEs T sc as xs = true) => snds as g h
  cases v <;> simp only [chkE] at h <;> first | (cases h; done) | skip
  split at h <;> first | (cases h; done) | skip
  obtain ⟨h1, h2⟩ := and2 h
  obtain ⟨h3, h4⟩ := and2 h1
  obtain ⟨h5, h6⟩ := and2 h3
  obtain ⟨h7, h8⟩ := and2 h5
  obtain ⟨h9, h10⟩ := and2 h7
  obtain ⟨h11, h12⟩ := and2 h9
  obtain ⟨h13, h14⟩ := and2 h11
  obtain ⟨h15, h16⟩ := and2 h13
  obtain ⟨h17, h18⟩ := and2 h15
  obtain rfl := of_decide_eq_true h17
  refine ⟨_, _, _, _, _, _, rfl, snd_I g h18 (fun a y e z => ?_) (fun xs z => (ind z).pa), by rw [g.N, g.scope]; exact blkOk_by h16, chkI_set h18, of_decide_eq_true h10, fun j hj => ?_, fun s H C cl fp => ?_, fun s H C cl fp => ?_, fun s H C cl fp => ?_⟩
  · subst e
    exact ((ind (xs := [y]) (by simp [chkEs, z, chkE_star z])).one a y rfl rfl).pe
  · have := List.all_eq_true.mp h12 j hj
    simpa using this
  · have h14 : chkP T.N (stB _) t _ = true := h14
    rw [← g.N] at h14
    refine PG.weak (snd_pat (X := X.blk s H _ (compEnvC _ cl C X.env) fp) (by show X.N.Nodup; rw [g.N]; exact g.nd) g.calm (stOk_blk s H _ C cl fp) h14) fun v σ H Q q => q
  · exact (snds tests (g.blk s H _ C cl fp) h4).pts (chkEs_len h4) (of_decide_eq_true h6) h8
  · exact (snd1 elt (g.blk s H _ C cl fp) h2).pe
theorem snd_asgL {own : List Nat} {t2 t : Pat} {ik : IK} {as tests : List E} {elt : E} {tg v : Expr} {pos : Pos} (g : Good T Φ k sc X) (d : DefCx X) (h1 : chkP T.N (stB sc) t tg = true) (h2 : chkE T sc (.cmp own t2 ik as tests elt) v = true) (h3 : swB sc tg v = true) :
    PS X (.Assign [tg] v pos) (tT X.K (ex Φ T.G (.asg t (.cmp own t2 ik as tests elt))) (asgP t)) := by
  obtain ⟨x, tg2, iter, ifs, scope, pos2, rfl, c1, c2, c3, c4, c5, c6, c7, c8⟩ := cmp_of g h2
  refine ⟨fun pins s σ H D I h => ?_⟩
  obtain ⟨e, F, fl, e', he, n, hf, hQ⟩ := h
  obtain ⟨e1, rfl, ⟨p, g1, g2⟩ | ⟨i, ps, rfl, g1, rfl⟩⟩ := ex_asg hf
  · obtain ⟨_, _, _, _, _, _, _, _, _, _, _, e, _⟩ := evo_cmp g1
    cases e
  · obtain ⟨_, y, py, rfl, hN, _⟩ := name_def g d h1
    have h3 : (lookB sc y .local && py.line == pos2.line && !(ownsN scope y)) = true := h3
    obtain ⟨h4, h5⟩ := and2 h3
    obtain ⟨h6, h7⟩ := and2 h4
    have hl : X.env.scope.names.lookup y = some .local := by rw [g.scope]; exact look_of h6
    rw [Bool.not_eq_true'] at h5
    refine (ps_setLc g.calm (by rw [g.N]; exact g.nd) hN hl (sw_true d.kind hl h7 h5) c1 c2 c6 c7 c8 (notSet_of c3 _)).run pins s σ H D I ?_
    exact lcmp_reads (own_map T.N own) c4 c5 (asg_lst (i := i) he n g1 (by simpa [asgP] using hQ))
end
end Sw
set_option maxHeartbeats 1000000
/-! Sw, part 19: statements, on. -/
namespace Sw
open PySem PySem.Spec PyProof.Rows L2
section
variable {T : Tab} {Φ : CallS} {k : Nat} {sc : Scope} {X : Cx}
/-! ### several at once -/
def setsV : List Nat → List V → L2.St → L2.St
  | i :: is, v :: vs, σ => setsV is vs (σ.set i (some v))
  | _, _, σ => σ
theorem setAll_ok {K : PySem.W.Frag} {H : Hp} {σ0 : L2.St} : ∀ {is : List Nat} {vs : List V} {os : List Opd} {Fs : List Addr}, ORs K H σ0 vs os Fs → ∀ {σ : L2.St} {e e' : En} {F : List Addr}, EnvRep K H σ e F → (Fs ++ F).Nodup → setAll is os e = some e' →
    vs.length = is.length ∧ ∃ F', EnvRep K H (setsV is vs σ) e' F' ∧ F'.Nodup ∧ (∀ a, a ∈ F' → a ∈ Fs ++ F) ∧ Agr is σ (setsV is vs σ) := by
  intro is vs os Fs h
  induction h generalizing is with
  | nil =>
    intro σ e e' F he n hs
    cases is with
    | cons _ _ => cases hs
    | nil => cases hs; exact ⟨rfl, F, he, n, fun a z => z, Agr.refl _ _⟩
  | @cons v vs o os F0 G0 r _ ih =>
    intro σ e e' F he n hs
    cases is with
    | nil => cases o <;> cases hs
    | cons i is =>
      cases o with
      | slot _ => cases hs
      | tmp d =>
        have hs : setAll is os (e.set i (some d)) = some e' := hs
        have r : Rep K H v d F0 := r
        obtain ⟨F1, h1, h2, h3⟩ := he.setD r i
        rw [List.append_assoc] at n
        have n0 : (F0 ++ F).Nodup := nd_mk (nd_left n) (nd_right (nd_right n)) fun a z y => nd_off n a z (List.mem_append_right _ y)
        have nG : (G0 ++ F1).Nodup := nd_mk (nd_left (nd_right n)) (h3 n0) fun a z y => by
          rcases h2 a y with y | y
          · exact nd_off n a y (List.mem_append_left _ z)
          · exact nd_off (nd_right n) a z y
        obtain ⟨g1, F2, g2, g3, g4, g5⟩ := ih h1 nG hs
        refine ⟨by rw [List.length_cons, List.length_cons, g1], F2, g2, g3, fun a z => ?_, ?_⟩
        · rw [List.append_assoc]
          rcases List.mem_append.mp (g4 a z) with z | z
          · exact List.mem_append_right _ (List.mem_append_left _ z)
          · rcases h2 a z with z | z
            · exact List.mem_append_left _ z
            · exact List.mem_append_right _ (List.mem_append_right _ z)
        · exact (agr_set.mono fun j z => by rw [List.mem_singleton.mp z]; exact List.mem_cons_self).trans (g5.mono fun j z => List.mem_cons_of_mem _ z)
theorem ex_par {is : List Nat} {es : List E} {e e' : En} {fl : Fl} (h : ex Φ T.G (.par is es) e = some (fl, e')) : ∃ os e1, fl = .nx ∧ evos Φ T.G es e = some (os, e1) ∧ setAll is os e1 = some e' := by
  simp only [ex] at h
  obtain ⟨⟨os, e1⟩, h1, h⟩ := bind_some h
  obtain ⟨e2, h2, h⟩ := bind_some h
  cases h
  exact ⟨os, e1, rfl, h1, h2⟩
theorem par_reads {is : List Nat} {es : List E} {D : Ends} {σ : L2.St} {H : Hp} (h : tT X.K (ex Φ T.G (.par is es)) is D σ H) : tOs X.K (evos Φ T.G es) σ H fun vs H1 => vs.length = is.length ∧ D.nx (setsV is vs σ) H1 := by
  obtain ⟨e, F, fl, e', he, n, hf, hQ⟩ := h
  obtain ⟨os, e1, rfl, h1, h2⟩ := ex_par hf
  refine ⟨e, F, os, e1, he, n, h1, fun vs H1 Fs F1 rs he1 n1 s1 => ?_⟩
  obtain ⟨g1, F2, g2, g3, g4, g5⟩ := setAll_ok rs he1 n1 h2
  exact ⟨g1, hQ _ H1 F2 g2 g3 (stp_pick s1 g4) g5⟩
/-- plain: the tuple, then its parts -/
def gNms : List Nat → TGs
  | [] => gNil
  | i :: is => gCons (gName i) (gNms is)
theorem gNms_ok : ∀ {is : List Nat} {vs : List V} {σ : L2.St} {H : Hp} {Q : L2.St → Hp → Prop}, vs.length = is.length → Q (setsV is vs σ) H → gNms is vs σ H Q
  | [], [], σ, H, Q, _, q => ⟨rfl, q⟩
  | i :: is, v :: vs, σ, H, Q, hl, q => ⟨v, vs, rfl, gNms_ok (by simpa using hl) q⟩
  | [], _ :: _, _, _, _, hl, _ => by simp at hl
  | _ :: _, [], _, _, _, hl, _ => by simp at hl
theorem nms_ok (g : Good T Φ k sc X) (d : DefCx X) : ∀ {is : List Nat} {ts : List Expr}, nmsB T.N (stB sc) is ts = true → PGs X ts (gNms is) ∧ (assignEach ts X.env).length = is.length ∧ (assignEach ts X.env).findIdx? (·.1) = none
  | [], [], _ => ⟨pgs_nil, rfl, rfl⟩
  | i :: is, t :: ts, h => by
    obtain ⟨h1, h2⟩ := and2 (show (chkP T.N (stB sc) (.nm i) t && nmsB T.N (stB sc) is ts) = true from h)
    obtain ⟨a1, a2, a3⟩ := nms_ok g d h2
    obtain ⟨b1, y, pos, rfl, b2, b3⟩ := name_def g d h1
    exact ⟨pgs_cons b1 a1, by rw [show assignEach (.Name y pos :: ts) X.env = (false, assign (.Name y pos) X.env) :: assignEach ts X.env from rfl, List.length_cons, a2, List.length_cons], by
      rw [show assignEach (.Name y pos :: ts) X.env = (false, assign (.Name y pos) X.env) :: assignEach ts X.env from rfl, List.findIdx?_cons, a3] <;> rfl⟩
  | [], _ :: _, h => by cases h
  | _ :: _, [], h => by cases h
theorem nmsB_cons {N : List Str} {st : Str → Bool} {is : List Nat} {t : Expr} {ts : List Expr} (h : nmsB N st is (t :: ts) = true) : ∃ i js, is = i :: js ∧ chkP N st (.nm i) t = true ∧ nmsB N st js ts = true := by
  cases is with
  | nil => cases h
  | cons i js =>
    obtain ⟨h1, h2⟩ := and2 (show (chkP N st (.nm i) t && nmsB N st js ts) = true from h)
    exact ⟨i, js, rfl, h1, h2⟩
theorem nmsB_nil {N : List Str} {st : Str → Bool} {is : List Nat} (h : nmsB N st is [] = true) : is = [] := by
  cases is with
  | nil => rfl
  | cons _ _ => cases h
theorem name_st {i : Nat} {y : Str} {py : Pos} (g : Good T Φ k sc X) (d : DefCx X) (h : chkP T.N (stB sc) (.nm i) (.Name y py) = true) : X.N[i]? = some y := by
  obtain ⟨_, z, pz, e, n1, _⟩ := name_def g d h
  cases e
  exact n1
theorem snd_par {is : List Nat} {es : List E} {ts vs : List Expr} {kt k2 : Nat} {pt pt2 pos : Pos} (g : Good T Φ k sc X) (d : DefCx X) (h1 : nmsB T.N (stB sc) is ts = true) (h2 : is.Nodup) (hlen : is.length ≤ 20) (h3 : chkEs T sc es vs = true) (h4 : parB sc ts vs = true) :
    PS X (.Assign [.Tuple ts kt pt] (.Tuple vs k2 pt2) pos) (tT X.K (ex Φ T.G (.par is es)) is) := by
  have hv := (snds es g h3).pa
  have hN : X.N.Nodup := by rw [g.N]; exact g.nd
  unfold parB at h4
  split at h4
  · rename_i hw
    obtain ⟨a1, a2, a3⟩ := nms_ok g d h1
    refine PS.weak (ps_asg (pe_tup hv) (pg_tup (n := is.length) g.calm a1 a2 a3) (swS_no rfl _ _) (sw_pair d.kind (by rw [g.scope]; exact hw)) rfl) fun D σ H h => ?_
    obtain ⟨e0, F0, fl, e', he0, n0, hf0, hQ0⟩ := h
    obtain ⟨os', e1', rfl, k1, k2⟩ := ex_par hf0
    refine ⟨e0, F0, os', e1', he0, n0, k1, fun us H1 Fs F1 rs he1 n1 s1 => ?_⟩
    have hl : us.length = is.length := (setAll_ok rs he1 n1 k2).1
    refine ⟨by rw [sizeLine_is]; omega, fun p hp => ?_⟩
    have sm : Same H1 (upd H1 p (.tup us)) := same_new hp
    refine ⟨p, us, rfl, SqT.of upd_same, hl, ?_⟩
    have rs' := rs.mono (Keeps.of_same sm) (same_off sm rs.mut)
    obtain ⟨_, F2, g2, g3, g4, g5⟩ := setAll_ok rs' (he1.same sm) n1 k2
    exact gNms_ok hl (hQ0 _ _ F2 g2 g3 (stp_pick (s1.trans (Stp.of_same sm)) g4) g5)
  · rename_i ns hw
    split at h4
    · rename_i y py z pz v1 v2
      obtain ⟨h5, l3⟩ := and2 h4
      obtain ⟨h6, l1⟩ := and2 h5
      obtain rfl := of_decide_eq_true h6
      obtain ⟨i, js, rfl, c1, h1⟩ := nmsB_cons h1
      obtain ⟨j, js2, rfl, c3, h1⟩ := nmsB_cons h1
      obtain rfl := nmsB_nil h1
      refine PS.weak (ps_par g.calm hN (name_st g d c1) (name_st g d c3) (by simpa using h2) (by rw [g.scope]; exact look_of l1) (by rw [g.scope]; exact look_of l3) hv (sw_pair d.kind (by rw [g.scope]; exact hw)) (swS_no rfl _ _)) fun D σ H h => ?_
      obtain ⟨e, F, os, e1, he, n, hf, hQ⟩ := par_reads h
      refine ⟨e, F, os, e1, he, n, hf, fun us H1 Fs F1 rs he1 n1 s1 => ?_⟩
      obtain ⟨q1, q2⟩ := hQ us H1 Fs F1 rs he1 n1 s1
      match us, q1, q2 with
      | [u1, u2], _, q2 => exact ⟨u1, u2, rfl, q2⟩
    · rename_i y py z pz w pw v1 v2 v3
      obtain ⟨h5, l5⟩ := and2 h4
      obtain ⟨h6, l3⟩ := and2 h5
      obtain ⟨h7, l1⟩ := and2 h6
      obtain rfl := of_decide_eq_true h7
      obtain ⟨i, js, rfl, c1, h1⟩ := nmsB_cons h1
      obtain ⟨j, js2, rfl, c3, h1⟩ := nmsB_cons h1
      obtain ⟨l, js3, rfl, c5, h1⟩ := nmsB_cons h1
      obtain rfl := nmsB_nil h1
      have hd : i ≠ j ∧ i ≠ l ∧ j ≠ l := by
        simp only [List.nodup_cons, List.mem_cons, List.not_mem_nil, or_false, not_or] at h2
        exact ⟨h2.1.1, h2.1.2, h2.2.1⟩
      refine PS.weak (ps_par3 g.calm hN (name_st g d c1) (name_st g d c3) (name_st g d c5) hd.1 hd.2.1 hd.2.2 (by rw [g.scope]; exact look_of l1) (by rw [g.scope]; exact look_of l3) (by rw [g.scope]; exact look_of l5) hv (sw_pair d.kind (by rw [g.scope]; exact hw)) (swS_no rfl _ _)) fun D σ H h => ?_
      obtain ⟨e, F, os, e1, he, n, hf, hQ⟩ := par_reads h
      refine ⟨e, F, os, e1, he, n, hf, fun us H1 Fs F1 rs he1 n1 s1 => ?_⟩
      obtain ⟨q1, q2⟩ := hQ us H1 Fs F1 rs he1 n1 s1
      match us, q1, q2 with
      | [u1, u2, u3], _, q2 => exact ⟨u1, u2, u3, rfl, q2⟩
    · cases h4
  · cases h4
/-! ### x op= y -/
def rAug : R2 := fun x y H Q => (∃ i j : Int, x = .int i ∧ y = .int j ∧ Q (.int (i + j)) H) ∨ ∃ i j : Str, x = .str i ∧ y = .str j ∧ i.length + j.length ≤ sizeLine ∧ Q (.str (i ++ j)) H
def rAugS : R2 := fun x y H Q => ∃ i j : Int, x = .int i ∧ y = .int j ∧ Q (.int (i - j)) H
theorem pip_add : PIp X .Add rAug := fun pins s σ H x y v u Q I rx ry h => by
  rcases h with h | h
  · exact augR iop_add I rx ry h
  · exact augR iop_add_str I rx ry h
theorem pip_sub : PIp X .Sub rAugS := fun pins s σ H x y v u Q I rx ry h => augR iop_sub I rx ry h
theorem ex_aug {i : Nat} {o : Op} {a : E} {e e' : En} {fl : Fl} (h : ex Φ T.G (.aug i o a) e = some (fl, e')) : ∃ u y e1 du dy d, fl = .nx ∧ nmSem i e = some u ∧ evo Φ T.G a e = some (y, e1) ∧ resv e1 u = some du ∧ resv e1 y = some dy ∧ augSem o du dy = some d ∧ e' = e1.set i (some d) := by
  simp only [ex] at h
  obtain ⟨u, h1, h⟩ := bind_some h
  obtain ⟨⟨y, e1⟩, h2, h⟩ := bind_some h
  obtain ⟨ds, h3, h⟩ := bind_some h
  obtain ⟨d, h4, h⟩ := bind_some h
  cases h
  simp only [resvs] at h3
  obtain ⟨du, h5, h3⟩ := bind_some h3
  obtain ⟨ds2, h6, h3⟩ := bind_some h3
  obtain ⟨dy, h7, h6⟩ := bind_some h6
  simp only [Option.bind_some] at h6
  cases h6
  cases h3
  exact ⟨u, y, e1, du, dy, d, rfl, h1, h2, h5, h7, h4, rfl⟩
theorem snd_aug {i : Nat} {o : Op} {a : E} {x : Str} {v : Expr} {op : Operator} {p pos : Pos} (g : Good T Φ k sc X) (d : DefCx X) (h1 : visB T.N sc i x = true) (h2 : stB sc x = true) (h3 : augOp o = some op) (h4 : chkE T sc a v = true) :
    PS X (.AugAssign (.Name x p) op v pos) (tT X.K (ex Φ T.G (.aug i o a)) [i]) := by
  obtain ⟨v1, v2, v3, v4⟩ := vis_of h1
  have ok := stOk_def g d
  have hN : X.N.Nodup := by rw [g.N]; exact g.nd
  have hv := (snd1 a g h4).pe
  have hi : X.N[i]? = some x := by rw [g.N]; exact v1
  have red : ∀ {D : Ends} {σ : L2.St} {H : Hp} {ti : TIp}, (∀ {K : PySem.W.Frag} {H1 : Hp} {w z : V} {du dy dz : Sw.D} {Q : VK}, (∃ F, Rep K H1 w du F) → (∃ F, Rep K H1 z dy F) → augSem o du dy = some dz → (∀ r, PRep K H1 r (rd dz) → isImm dz = true → Q r H1) → ti w z H1 Q) →
      tT X.K (ex Φ T.G (.aug i o a)) [i] D σ H → tAug i (tO X.K (evo Φ T.G a)) ti D σ H := fun {D σ H ti} hti h => by
    obtain ⟨e, F, fl, e', he, n, hf, hQ⟩ := h
    obtain ⟨u, y, e1, du, dy, dz, rfl, k1, k2, k3, k4, k5, rfl⟩ := ex_aug hf
    unfold nmSem at k1
    split at k1
    · rename_i q hq
      cases k1
      cases k3
      obtain ⟨w, Fi, w1, w2, _⟩ := he.get hq
      obtain ⟨w3, rfl⟩ := w2.imm_of
      refine ⟨w, w1, tO_mk he n k2 fun z H1 Fd F1 ox he1 n1 s1 => ?_⟩
      have kp := s1.keeps he.mut
      refine hti ⟨[], Rep.imm (w3.keep kp)⟩ (resv_ok he1 ox k4) k5 fun r hr him => ?_
      cases dz with
      | lst _ => cases him
      | imm pz =>
        obtain ⟨F2, g1, g2, g3⟩ := he1.setD (Rep.imm (show PRep X.K H1 r pz from hr)) i
        exact hQ _ H1 F2 g1 (g3 (nd_right n1)) (stp_pick (stp_drop s1) fun a z => (g2 a z).elim (fun z => nomatch z) id) agr_set
    · cases k1
      obtain ⟨w, Fi, w1, w2, _⟩ := he.get (by assumption)
      refine ⟨w, w1, tO_mk he n k2 fun z H1 Fd F1 ox he1 n1 s1 => ?_⟩
      obtain ⟨w', Fi', w1', w2', _⟩ := he1.get (show getE e1 i = some du from k3)
      rw [w1] at w1'
      cases w1'
      refine hti ⟨Fi', w2'⟩ (resv_ok he1 ox k4) k5 fun r hr him => ?_
      cases dz with
      | lst _ => cases him
      | imm pz =>
        obtain ⟨F2, g1, g2, g3⟩ := he1.setD (Rep.imm (show PRep X.K H1 r pz from hr)) i
        exact hQ _ H1 F2 g1 (g3 (nd_right n1)) (stp_pick (stp_drop s1) fun a z => (g2 a z).elim (fun z => nomatch z) id) agr_set
    · cases k1
  cases o <;> first | (cases h3; done) | (cases h3)
  · refine PS.weak (ps_aug hN hi (ok.loc _ h2) hv pip_add (ok.fn _ h2)) fun D σ H h => red (fun {K H1 w z du dy dz Q} r1 r2 hs hq => ?_) h
    obtain ⟨_, r1⟩ := r1
    obtain ⟨_, r2⟩ := r2
    unfold augSem at hs
    split at hs
    · obtain rfl := r1.int_of
      obtain rfl := r2.int_of
      cases hs
      exact .inl ⟨_, _, rfl, rfl, hq _ (.int _) rfl⟩
    · split at hs
      · rename_i hl
        obtain ⟨rfl, c1⟩ := r1.str_of
        obtain ⟨rfl, c2⟩ := r2.str_of
        cases hs
        refine .inr ⟨_, _, rfl, rfl, by rw [sOf_len, sOf_len]; exact le_line hl, ?_⟩
        rw [sOf_app]
        exact hq _ (.str _ (chrOk_app c1 c2)) rfl
      · cases hs
    · rename_i e
      cases e
    · cases hs
  · refine PS.weak (ps_aug hN hi (ok.loc _ h2) hv pip_sub (ok.fn _ h2)) fun D σ H h => red (fun {K H1 w z du dy dz Q} r1 r2 hs hq => ?_) h
    obtain ⟨_, r1⟩ := r1
    obtain ⟨_, r2⟩ := r2
    unfold augSem at hs
    split at hs
    · rename_i e
      cases e
    · rename_i e
      cases e
    · obtain rfl := r1.int_of
      obtain rfl := r2.int_of
      cases hs
      exact ⟨_, _, rfl, rfl, hq _ (.int _) rfl⟩
    · cases hs
/-! ### x[i] = y -/
theorem ex_sto {i : Nat} {q a : E} {e e' : En} {fl : Fl} (h : ex Φ T.G (.sto i q a) e = some (fl, e')) : ∃ x e1 p d0 y e2 z, fl = .nx ∧ evo Φ T.G a e = some (x, e1) ∧ immO x = some p ∧ getE e1 i = some d0 ∧ evo Φ T.G q e1 = some (y, e2) ∧ immO y = some z ∧ stoSem i z p e2 = some e' := by
  simp only [ex] at h
  obtain ⟨⟨x, e1⟩, h1, h⟩ := bind_some h
  obtain ⟨p, h2, h⟩ := bind_some h
  obtain ⟨d0, h3, h⟩ := bind_some h
  obtain ⟨⟨y, e2⟩, h4, h⟩ := bind_some h
  obtain ⟨z, h5, h⟩ := bind_some h
  obtain ⟨e3, h6, h⟩ := bind_some h
  cases h
  exact ⟨x, e1, p, d0, y, e2, z, rfl, h1, h2, h3, h4, h5, h6⟩
theorem snd_sto {i : Nat} {q a : E} {x : Str} {v ix : Expr} {p p2 pos : Pos} (g : Good T Φ k sc X) (h1 : visB T.N sc i x = true) (h2 : notSlice ix = true) (h3 : chkE T sc q ix = true) (h4 : chkE T sc a v = true) (h5 : isComp v = false) :
    PS X (.Assign [.Subscript (.Name x p) ix p2] v pos) (tT X.K (ex Φ T.G (.sto i q a)) []) := by
  obtain ⟨v1, v2, v3, v4⟩ := vis_of h1
  have hx : PE X (.Name x p) (tVar i) := pe_var (i := i) (by rw [g.N]; exact v1) (by rw [g.scope]; exact v2) v3 v4
  have hv := (snd1 a g h4).pe
  have hq := (snd1 q g h3).pe
  refine PS.weak (ps_asg hv (pg_sub hx hq set_list (by intro v; cases ix <;> first | rfl | cases h2)) (swS_no h5 _ _) (swSt_no rfl _) rfl) fun D σ H h => ?_
  obtain ⟨e, F, fl, e', he, n, hf, hQ⟩ := h
  obtain ⟨xo, e1, p, d0, y, e2, z, rfl, k1, k2, k3, k4, k5, k6⟩ := ex_sto hf
  refine tO_mk he n k1 fun w H1 Fd F1 ox he1 n1 s1 => ?_
  obtain ⟨w1, rfl⟩ := immO_ok ox k2
  rw [List.nil_append] at n1 s1
  obtain ⟨v0, Fi, q1, q2, _⟩ := he1.get k3
  refine ⟨v0, q1, tO_mk he1 n1 k4 fun u H2 Fu F2 oy he2 n2 s2 => ?_⟩
  obtain ⟨u1, rfl⟩ := immO_ok oy k5
  rw [List.nil_append] at n2 s2
  have w2 := w1.keep (s2.keeps he1.mut)
  unfold stoSem at k6
  split at k6
  · rename_i xs j hxs
    obtain ⟨m, m1, m2⟩ := bind_some k6
    cases m2
    cases u1
    obtain ⟨a0, vs0, a1, a2, a3, a4, a5⟩ := he2.write n2 hxs
    rw [q1] at a1
    cases a1
    obtain ⟨F3, b1, b2, b3, b4⟩ := a5 (vs0.set m w) (xs.set m p) (a3.set w2 m)
    refine ⟨a0, vs0, j, m, rfl, rfl, a2, by rw [a3.length, ← ixP_eq]; exact m1, ?_⟩
    exact hQ _ _ F3 b1 b2 ((s1.trans s2).trans b4) (Agr.refl _ _)
  · cases k6
/-! ### small ones -/
theorem snd_ex {a : E} {v : Expr} {pos : Pos} (g : Good T Φ k sc X) (h1 : chkE T sc a v = true) (h2 : isComp v = false) : PS X (.Expr v pos) (tT X.K (ex Φ T.G (.ex a)) []) :=
  PS.weak (ps_expr (snd1 a g h1).pe (sw_no h2 _ _ _)) fun D σ H h => by
    obtain ⟨e, F, fl, e', he, n, hf, hQ⟩ := h
    simp only [ex] at hf
    obtain ⟨⟨x, e1⟩, h1, hf⟩ := bind_some hf
    cases hf
    exact tO_mk he n h1 fun v H1 Fd F1 ox he1 n1 s1 => hQ _ H1 F1 he1 (nd_right n1) (stp_drop s1) (Agr.refl _ _)
theorem snd_ret {a : E} {v : Expr} {pos : Pos} (g : Good T Φ k sc X) (h1 : chkE T sc a v = true) : PS X (.Return (some v) pos) (tT X.K (ex Φ T.G (.ret a)) []) :=
  PS.weak (ps_ret (snd1 a g h1).pe) fun D σ H h => by
    obtain ⟨e, F, fl, e', he, n, hf, hQ⟩ := h
    simp only [ex] at hf
    obtain ⟨⟨x, e1⟩, h1, hf⟩ := bind_some hf
    refine tO_mk he n h1 fun v H1 Fd F1 ox he1 n1 s1 => ?_
    cases x with
    | tmp d =>
      cases hf
      exact hQ v σ H1 Fd F1 ox he1 n1 s1 (Agr.refl _ _)
    | slot i =>
      obtain ⟨d, h2, h3⟩ := bind_some (show (getE e1 i).bind (fun d => some (Fl.rt d, e1.set i none)) = some (fl, e') from hf)
      cases h3
      obtain ⟨hi, rfl⟩ := (show σ[i]? = some (some v) ∧ Fd = [] from ox)
      obtain ⟨v', Fi, F', q1, q2, q3, q4, q5⟩ := he1.out h2
      rw [hi] at q1
      cases q1
      exact hQ v σ H1 Fi F' q2 q3 (q5 n1) (stp_pick s1 q4) (Agr.refl _ _)
theorem snd_ret0 {pos : Pos} : PS X (.Return none pos) (tT X.K (ex Φ T.G .ret0) []) := PS.weak ps_retN fun D σ H h => by
  obtain ⟨e, F, fl, e', he, n, hf, hQ⟩ := h
  simp only [ex, Option.some.injEq, Prod.mk.injEq] at hf
  obtain ⟨rfl, rfl⟩ := hf
  exact hQ .non σ H [] F (Rep.imm .non) he n (Stp.refl _ _) (Agr.refl _ _)
theorem snd_brk {pos : Pos} : PS X (.Break pos) (tT X.K (ex Φ T.G .brk) []) := PS.weak ps_break fun D σ H h => by
  obtain ⟨e, F, fl, e', he, n, hf, hQ⟩ := h
  simp only [ex, Option.some.injEq, Prod.mk.injEq] at hf
  obtain ⟨rfl, rfl⟩ := hf
  exact hQ σ H F he n (Stp.refl _ _) (Agr.refl _ _)
theorem snd_cont {pos : Pos} : PS X (.Continue pos) (tT X.K (ex Φ T.G .cont) []) := PS.weak ps_continue fun D σ H h => by
  obtain ⟨e, F, fl, e', he, n, hf, hQ⟩ := h
  simp only [ex, Option.some.injEq, Prod.mk.injEq] at hf
  obtain ⟨rfl, rfl⟩ := hf
  exact hQ σ H F he n (Stp.refl _ _) (Agr.refl _ _)
theorem snd_pass {pos : Pos} : PS X (.Pass pos) (tT X.K (ex Φ T.G .pass) []) := PS.weak ps_pass fun D σ H h => by
  obtain ⟨e, F, fl, e', he, n, hf, hQ⟩ := h
  simp only [ex, Option.some.injEq, Prod.mk.injEq] at hf
  obtain ⟨rfl, rfl⟩ := hf
  exact hQ σ H F he n (Stp.refl _ _) (Agr.refl _ _)
theorem snd_never {s : Stmt} : PS X s (tT X.K (ex Φ T.G .never) []) := PS.weak ps_never fun D σ H h => by
  obtain ⟨e, F, fl, e', he, n, hf, hQ⟩ := h
  simp [ex] at hf
end
end Sw
set_option maxHeartbeats 1000000
/-! Sw, part 20: control flow; functions. -/
namespace Sw
open PySem PySem.Spec PyProof.Rows L2
section
variable {W : Tab} {Φ : CallS} {k : Nat} {sc : Scope} {X : Cx}
theorem ORs.slots2 {K : PySem.W.Frag} {H : Hp} {σ τ : L2.St} {vs : List V} {os : List Opd} {F : List Addr} {l : List Nat} (h : ORs K H σ vs os F) (a : Agr l σ τ) (hf : freeOf os l = true) : ORs K H τ vs os F := h.slots fun i z => a.2 i (free_not hf i z)
/-! ### if -/
theorem ex_ifs {t : E} {a b : List T} {e e' : En} {fl : Fl} (h : ex Φ W.G (.ifs t a b) e = some (fl, e')) : ∃ x d k e1, evo Φ W.G t e = some (x, e1) ∧ resv e1 x = some d ∧ truth d = some k ∧ (if k then exs Φ W.G a e1 else exs Φ W.G b e1) = some (fl, e') := by
  simp only [ex] at h
  obtain ⟨⟨x, e1⟩, h1, h⟩ := bind_some h
  obtain ⟨d, h2, h⟩ := bind_some h
  obtain ⟨k, h3, h⟩ := bind_some h
  exact ⟨x, d, k, e1, h1, h2, h3, h⟩
theorem snd_if {t : E} {a b : List T} {c : Expr} {x y : List Stmt} {pos : Pos} (hc : PT X c (tTst X.K (evo Φ W.G t))) (ha : PSs X x (tT X.K (exs Φ W.G a) (asgTs a))) (hb : PSs X y (tT X.K (exs Φ W.G b) (asgTs b))) :
    PS X (.If c x y pos) (tT X.K (ex Φ W.G (.ifs t a b)) (asgTs a ++ asgTs b)) := PS.weak (ps_if hc ha hb) fun D σ H h => by
  obtain ⟨e, F, fl, e', he, n, hf, hQ⟩ := h
  obtain ⟨o, d, k, e1, h1, h2, h3, h4⟩ := ex_ifs hf
  refine ⟨e, F, o, e1, d, k, he, n, h1, h2, h3, fun H1 F1 he1 n1 s1 => ?_⟩
  cases k with
  | true =>
    rw [if_pos rfl] at h4 ⊢
    exact ⟨e1, F1, fl, e', he1, n1, h4, hQ.step s1 (Agr.refl _ _) (fun j z => z) fun j z => List.mem_append_left _ z⟩
  | false =>
    rw [if_neg Bool.false_ne_true] at h4 ⊢
    exact ⟨e1, F1, fl, e', he1, n1, h4, hQ.step s1 (Agr.refl _ _) (fun j z => z) fun j z => List.mem_append_right _ z⟩
/-! ### while -/
def stepW (Φ : CallS) (G : List P) (t : E) (body : List T) (e : En) : Option (Bool × Fl × En) := (evo Φ G t e).bind fun x => (resv x.2 x.1).bind fun d => (truth d).bind fun k => if k then (exs Φ G body x.2).bind fun r => some (true, r.1, r.2) else some (false, .nx, x.2)
theorem ex_whl {n : Nat} {t : E} {body : List T} {e : En} : ex Φ W.G (.whl n t body) e = whlL (stepW Φ W.G t body) n e := by
  simp only [ex]
  rfl
theorem snd_whl {n : Nat} {t : E} {body : List T} {c : Expr} {x : List Stmt} {pos : Pos} (d : DefCx X) (hc : PT X c (tTst X.K (evo Φ W.G t))) (hb : PSs X x (tT X.K (exs Φ W.G body) (asgTs body))) :
    PS X (.While c x [] pos) (tT X.K (ex Φ W.G (.whl n t body)) (asgTs body)) := PS.weak (ps_while d.own hc hb) fun D σ H h => by
  obtain ⟨e, F, fl, e', he, nd, hf, hQ⟩ := h
  rw [ex_whl] at hf
  refine ⟨fun m σ1 H1 => ∃ e1 F1, EnvRep X.K H1 σ1 e1 F1 ∧ F1.Nodup ∧ Stp H F H1 F1 ∧ Agr (asgTs body) σ σ1 ∧ whlL (stepW Φ W.G t body) m e1 = some (fl, e'), ⟨n, e, F, he, nd, Stp.refl _ _, Agr.refl _ _, hf⟩, fun m σ1 H1 hw => ?_⟩
  obtain ⟨e1, F1, he1, n1, s1, a1, hl⟩ := hw
  cases m with
  | zero => simp [whlL] at hl
  | succ m =>
    unfold whlL at hl
    obtain ⟨⟨b, f1, e2⟩, hs, hl⟩ := bind_some hl
    unfold stepW at hs
    obtain ⟨⟨o, e3⟩, g1, hs⟩ := bind_some hs
    obtain ⟨dv, g2, hs⟩ := bind_some hs
    obtain ⟨kb, g3, hs⟩ := bind_some hs
    refine ⟨e1, F1, o, e3, dv, kb, he1, n1, g1, g2, g3, fun H2 F2 he2 n2 s2 => ?_⟩
    cases kb with
    | false =>
      rw [if_neg Bool.false_ne_true] at hs ⊢
      cases hs
      rw [if_neg Bool.false_ne_true] at hl
      cases hl
      exact hQ σ1 H2 F2 he2 n2 (s1.trans s2) a1
    | true =>
      rw [if_pos rfl] at hs ⊢
      obtain ⟨⟨f2, e4⟩, g4, hs⟩ := bind_some hs
      cases hs
      rw [if_pos rfl] at hl
      refine ⟨fun σ' H' => ∃ e1 F1, EnvRep X.K H' σ' e1 F1 ∧ F1.Nodup ∧ Stp H F H' F1 ∧ Agr (asgTs body) σ σ' ∧ whlL (stepW Φ W.G t body) m e1 = some (fl, e'), fun σ' H' hn => ⟨m, Nat.lt_succ_self m, hn⟩, ?_⟩
      refine ⟨e3, F2, f2, e4, he2, n2, g4, ?_⟩
      cases f2 with
      | nx => exact fun σ' H' F' r nn q ag => ⟨e4, F', r, nn, (s1.trans s2).trans q, a1.trans ag, hl⟩
      | ct => exact fun σ' H' F' r nn q ag => ⟨e4, F', r, nn, (s1.trans s2).trans q, a1.trans ag, hl⟩
      | bk =>
        cases hl
        exact fun σ' H' F' r nn q ag => hQ σ' H' F' r nn ((s1.trans s2).trans q) (a1.trans ag)
      | rt dr =>
        cases hl
        exact fun v σ' H' Fd F' r r2 nn q ag => hQ v σ' H' Fd F' r r2 nn ((s1.trans s2).trans q) (a1.trans ag)
/-! ### for -/
def stepF (Φ : CallS) (G : List P) (t : Pat) (body : List T) (p : P) (e2 : En) : Option (Fl × En) := (bindP t p e2).bind fun e3 => exs Φ G body e3
theorem ex_for {t : Pat} {ik : IK} {as : List E} {body : List T} {e e' : En} {fl : Fl} (h : ex Φ W.G (.fors t ik as body) e = some (fl, e')) : ∃ os e1 ds ps, evos Φ W.G as e = some (os, e1) ∧ resvs e1 os = some ds ∧ items ik ds = some ps ∧ freeOf os (asgP t ++ asgTs body) = true ∧
    forL (stepF Φ W.G t body) (fun e' => lockOk os e1 e') ps e1 = some (fl, e') := by
  simp only [ex] at h
  obtain ⟨⟨os, e1⟩, h1, h⟩ := bind_some h
  obtain ⟨ds, h2, h⟩ := bind_some h
  obtain ⟨ps, h3, h⟩ := bind_some h
  split at h
  · rename_i c
    exact ⟨os, e1, ds, ps, h1, h2, h3, c, h⟩
  · cases h
theorem snd_for {t : Pat} {ik : IK} {as : List E} {body : List T} {tg iter : Expr} {x : List Stmt} {pos : Pos} (g : Good W Φ k sc X) (d : DefCx X) (hi : PI X tg iter (tI X.K ik (evos Φ W.G as))) (hg : PG X tg (tG X.K t)) (hset : notSet iter = true) (hb : PSs X x (tT X.K (exs Φ W.G body) (asgTs body))) :
    PS X (.For tg iter x [] pos) (tT X.K (ex Φ W.G (.fors t ik as body)) (asgP t ++ asgTs body)) := PS.weak (ps_for d.own g.calm hi hg hb (notSet_of hset _)) fun D σ H h => by
  obtain ⟨e, F, fl, e', he, nd, hf, hQ⟩ := h
  obtain ⟨os, e1, ds, ps, h1, h2, h3, hfree, hL⟩ := ex_for hf
  refine ⟨e, F, os, e1, ds, ps, he, nd, h1, h2, h3, fun J vs H1 Fd F1 ors he1 n1 s1 walk => ?_⟩
  refine for_it walk (fun i σ' H' => ∃ ei Fi Gd, ORs X.K H' σ' vs os Gd ∧ EnvRep X.K H' σ' ei Fi ∧ (Gd ++ Fi).Nodup ∧ Stp H F H' (Gd ++ Fi) ∧ Agr (asgP t ++ asgTs body) σ σ' ∧ lockOk os e1 ei = true ∧ forL (stepF Φ W.G t body) (fun e' => lockOk os e1 e') (ps.drop i) ei = some (fl, e'))
    ⟨e1, F1, Fd, ors, he1, n1, s1, Agr.refl _ _, lock_refl _ _, by rw [List.drop_zero]; exact hL⟩ (fun i σ' H' _ hp => ?_) (fun i y σ1 H2 H3 hi hp hy => ?_) (fun σ' H' hp => ?_)
  · obtain ⟨ei, Fi, Gd, c1, c2, c3, c4, c5, c6, c7⟩ := hp
    exact resvs_ok c2 c1 (by rw [lock_get c6]; exact h2)
  · obtain ⟨ei, Fi, Gd, c1, c2, c3, c4, c5, c6, c7⟩ := hp
    obtain ⟨sm, p, hp1, hp2⟩ := hy
    have hdr : ps.drop i = p :: ps.drop (i + 1) := by
      obtain ⟨hlt, e⟩ := List.getElem?_eq_some_iff.mp hp1
      rw [List.drop_eq_getElem_cons hlt, e]
    rw [hdr] at c7
    unfold forL at c7
    obtain ⟨⟨f1, e2⟩, hs, hl⟩ := bind_some c7
    unfold stepF at hs
    obtain ⟨e3, hs1, hs2⟩ := bind_some hs
    have c2' := c2.same sm
    have c1' : ORs X.K H3 σ1 vs os Gd := c1.mono (Keeps.of_same sm) (same_off sm c1.mut)
    refine ⟨ei, Fi, p, e3, c2', nd_right c3, hp2, hs1, fun σ2 F2 r2 n2 sub2 ag2 => ?_⟩
    have st2 : Stp H F H3 (Gd ++ F2) := stp_pick (c4.trans (Stp.of_same sm)) fun a z => (List.mem_append.mp z).elim (fun z => List.mem_append_left _ z) fun z => List.mem_append_right _ (sub2 a z)
    have nd2 : (Gd ++ F2).Nodup := nd_mk (nd_left c3) n2 fun a z y => nd_off c3 a z (sub2 a y)
    have ag2' : Agr (asgP t ++ asgTs body) σ1 σ2 := ag2.mono fun j z => List.mem_append_left _ z
    have o2 : ORs X.K H3 σ2 vs os Gd := c1'.slots2 ag2' hfree
    refine ⟨e3, F2, f1, e2, r2, n2, hs2, ?_⟩
    have again : (if lockOk os e1 e2 = true then forL (stepF Φ W.G t body) (fun e' => lockOk os e1 e') (ps.drop (i + 1)) e2 else none) = some (fl, e') → ∀ (σ' : L2.St) (H' : Hp) (F' : List Addr), EnvRep X.K H' σ' e2 F' → F'.Nodup → Stp H3 F2 H' F' → Agr (asgTs body) σ2 σ' →
        ∃ ei Fi Gd, ORs X.K H' σ' vs os Gd ∧ EnvRep X.K H' σ' ei Fi ∧ (Gd ++ Fi).Nodup ∧ Stp H F H' (Gd ++ Fi) ∧ Agr (asgP t ++ asgTs body) σ σ' ∧ lockOk os e1 ei = true ∧ forL (stepF Φ W.G t body) (fun e' => lockOk os e1 e') (ps.drop (i + 1)) ei = some (fl, e') := fun hl σ' H' F' r nn q ag => by
      split at hl
      · rename_i lk
        have ag' : Agr (asgP t ++ asgTs body) σ2 σ' := ag.mono fun j z => List.mem_append_right _ z
        obtain ⟨k1, k2⟩ := stp_keep q r2.mut o2.mut nd2
        obtain ⟨k3, k4⟩ := stp_two st2 nd2 o2.mut q nn
        exact ⟨e2, F', Gd, (o2.mono k1 k2).slots2 ag' hfree, r, k4, k3, (c5.trans ag2').trans ag', lk, hl⟩
      · cases hl
    have out : ∀ (σ' : L2.St) (H' : Hp) (F' : List Addr), F'.Nodup → Stp H3 F2 H' F' → Agr (asgTs body) σ2 σ' → Stp H F H' F' ∧ Agr (asgP t ++ asgTs body) σ σ' := fun σ' H' F' nn q ag =>
      ⟨(stp_pick st2 fun a z => List.mem_append_right _ z).trans q, (c5.trans ag2').trans (ag.mono fun j z => List.mem_append_right _ z)⟩
    cases f1 with
    | nx => exact again hl
    | ct => exact again hl
    | bk =>
      cases hl
      exact fun σ' H' F' r nn q ag => hQ σ' H' F' r nn (out σ' H' F' nn q ag).1 (out σ' H' F' nn q ag).2
    | rt dr =>
      cases hl
      exact fun v σ' H' Fd F' r r2 nn q ag => hQ v σ' H' Fd F' r r2 nn ((stp_pick st2 fun a z => List.mem_append_right _ z).trans q) ((c5.trans ag2').trans (ag.mono fun j z => List.mem_append_right _ z))
  · obtain ⟨ei, Fi, Gd, c1, c2, c3, c4, c5, c6, c7⟩ := hp
    rw [List.drop_length] at c7
    unfold forL at c7
    cases c7
    exact hQ σ' H' Fi c2 (nd_right c3) (stp_drop c4) c5
/-! ### blocks -/
theorem snd_snil : PSs X [] (tT X.K (exs Φ W.G []) (asgTs [])) := by
  refine ⟨fun pins s σ H D I h => pss_nil.run pins s σ H D I ?_⟩
  obtain ⟨e, F, fl, e', he, n, hf, hQ⟩ := h
  simp only [exs, Option.some.injEq, Prod.mk.injEq] at hf
  obtain ⟨rfl, rfl⟩ := hf
  exact hQ σ H F he n (Stp.refl _ _) (Agr.refl _ _)
theorem snd_scons {a : T} {as : List T} {s : Stmt} {ss : List Stmt} (ha : PS X s (tT X.K (ex Φ W.G a) (asgT a))) (hs : PSs X ss (tT X.K (exs Φ W.G as) (asgTs as))) : PSs X (s :: ss) (tT X.K (exs Φ W.G (a :: as)) (asgTs (a :: as))) := by
  refine PSs.weak (pss_cons ha hs) fun D σ H h => ?_
  obtain ⟨e, F, fl, e', he, n, hf, hQ⟩ := h
  simp only [exs] at hf
  simp only [asgTs] at hQ
  obtain ⟨⟨f1, e1⟩, h1, h2⟩ := bind_some hf
  refine ⟨e, F, f1, e1, he, n, h1, ?_⟩
  cases f1 with
  | nx => exact fun σ1 H1 F1 r n1 s1 a1 => ⟨e1, F1, fl, e', r, n1, h2, hQ.step s1 a1 (fun j z => List.mem_append_left _ z) fun j z => List.mem_append_right _ z⟩
  | bk =>
    cases h2
    exact fun σ1 H1 F1 r n1 s1 a1 => hQ σ1 H1 F1 r n1 s1 (a1.mono fun j z => List.mem_append_left _ z)
  | ct =>
    cases h2
    exact fun σ1 H1 F1 r n1 s1 a1 => hQ σ1 H1 F1 r n1 s1 (a1.mono fun j z => List.mem_append_left _ z)
  | rt d =>
    cases h2
    exact fun v σ1 H1 Fd F1 r r2 n1 s1 a1 => hQ v σ1 H1 Fd F1 r r2 n1 s1 (a1.mono fun j z => List.mem_append_left _ z)
mutual
theorem sndT : ∀ (a : T) {s : Stmt}, Good W Φ k sc X → DefCx X → chkT W sc a s = true → PS X s (tT X.K (ex Φ W.G a) (asgT a))
  | .asg t a, s, g, d, h => by
    unfold chkT at h
    split at h <;> first | (cases h; done) | skip
    obtain ⟨h1, h2⟩ := and2 h
    obtain ⟨h3, h4⟩ := and2 h1
    simp only [asgT]
    rcases (Bool.or_eq_true _ _).mp h2 with h2 | h2
    · exact snd_asg g d h3 h4 h2
    · obtain ⟨h5, h6⟩ := and2 h2
      cases a <;> first | (cases h5; done) | exact snd_asgL g d h3 h4 h6
  | .par is es, s, g, d, h => by
    unfold chkT at h
    split at h <;> first | (cases h; done) | skip
    obtain ⟨h1, h2⟩ := and2 h
    obtain ⟨h3, h4⟩ := and2 h1
    obtain ⟨h5, h6⟩ := and2 h3
    obtain ⟨h7, h8⟩ := and2 h5
    simp only [asgT]
    exact snd_par g d h7 (of_decide_eq_true h8) (of_decide_eq_true h6) h4 h2
  | .aug i o a, s, g, d, h => by
    unfold chkT at h
    split at h <;> first | (cases h; done) | skip
    obtain ⟨h1, h2⟩ := and2 h
    obtain ⟨h3, h4⟩ := and2 h1
    obtain ⟨h5, h6⟩ := and2 h3
    simp only [asgT]
    exact snd_aug g d h5 h6 (of_decide_eq_true h4) h2
  | .sto i q a, s, g, d, h => by
    unfold chkT at h
    split at h <;> first | (cases h; done) | skip
    obtain ⟨h1, h2⟩ := and2 h
    obtain ⟨h3, h4⟩ := and2 h1
    obtain ⟨h5, h6⟩ := and2 h3
    obtain ⟨h7, h8⟩ := and2 h5
    rw [Bool.not_eq_true'] at h2
    simp only [asgT]
    exact snd_sto g h7 h8 h6 h4 h2
  | .augs _ _ _ _, s, g, d, h => by simp [chkT] at h
  | .ex a, s, g, d, h => by
    unfold chkT at h
    split at h <;> first | (cases h; done) | skip
    obtain ⟨h1, h2⟩ := and2 h
    rw [Bool.not_eq_true'] at h2
    simp only [asgT]
    exact snd_ex g h1 h2
  | .ret a, s, g, d, h => by
    unfold chkT at h
    split at h <;> first | (cases h; done) | skip
    simp only [asgT]
    exact snd_ret g h
  | .ret0, s, g, d, h => by
    unfold chkT at h
    split at h <;> first | (cases h; done) | skip
    simp only [asgT]
    exact snd_ret0
  | .ifs t a b, s, g, d, h => by
    have ia := fun {ss : List Stmt} (h : chkTs W sc a ss = true) => sndTs a g d h
    have ib := fun {ss : List Stmt} (h : chkTs W sc b ss = true) => sndTs b g d h
    unfold chkT at h
    split at h <;> first | (cases h; done) | skip
    obtain ⟨h1, h2⟩ := and2 h
    obtain ⟨h3, h4⟩ := and2 h1
    obtain ⟨h5, h6⟩ := and2 h3
    simp only [asgT]
    exact snd_if ((snd1 t g h5).pt h6) (ia h4) (ib h2)
  | .fors t ik as body, s, g, d, h => by
    have ib := fun {ss : List Stmt} (h : chkTs W sc body ss = true) => sndTs body g d h
    unfold chkT at h
    split at h <;> first | (cases h; done) | skip
    obtain ⟨h1, h2⟩ := and2 h
    obtain ⟨h3, h4⟩ := and2 h1
    have ind := fun {xs : List Expr} (h : chkEs W sc as xs = true) => snds as g h
    simp only [asgT]
    refine snd_for g d (snd_I g h4 (fun a y e z => ?_) fun xs z => (ind z).pa) (pat_def g d h3) (chkI_set h4) (ib h2)
    subst e
    exact ((ind (xs := [y]) (by simp [chkEs, z, chkE_star z])).one a y rfl rfl).pe
  | .whl n t body, s, g, d, h => by
    have ib := fun {ss : List Stmt} (h : chkTs W sc body ss = true) => sndTs body g d h
    unfold chkT at h
    split at h <;> first | (cases h; done) | skip
    obtain ⟨h1, h2⟩ := and2 h
    obtain ⟨h3, h4⟩ := and2 h1
    simp only [asgT]
    exact snd_whl d ((snd1 t g h3).pt h4) (ib h2)
  | .brk, s, g, d, h => by
    unfold chkT at h
    split at h <;> first | (cases h; done) | skip
    simp only [asgT]
    exact snd_brk
  | .cont, s, g, d, h => by
    unfold chkT at h
    split at h <;> first | (cases h; done) | skip
    simp only [asgT]
    exact snd_cont
  | .pass, s, g, d, h => by
    unfold chkT at h
    split at h <;> first | (cases h; done) | skip
    simp only [asgT]
    exact snd_pass
  | .never, s, g, d, h => by
    simp only [asgT]
    exact snd_never
theorem sndTs : ∀ (as : List T) {ss : List Stmt}, Good W Φ k sc X → DefCx X → chkTs W sc as ss = true → PSs X ss (tT X.K (exs Φ W.G as) (asgTs as))
  | [], ss, g, d, h => by
    cases ss with
    | nil => exact snd_snil
    | cons _ _ => simp [chkTs] at h
  | a :: as, ss, g, d, h => by
    cases ss with
    | nil => simp [chkTs] at h
    | cons s ss =>
      simp only [chkTs] at h
      obtain ⟨h1, h2⟩ := and2 h
      exact snd_scons (sndT a g d h1) (sndTs as g d h2)
end
end
end Sw
set_option maxHeartbeats 1000000
/-! Sw, part 21: the functions' table, the law. -/
namespace Sw
open PySem PySem.Spec PyProof.Rows L2
structure DS where
  d : He.DefD
  ps : List Str
  N : List Str
  fn : Fn
def fnsOf (defs : List DS) : List (Str × Nat) := defs.map fun D => (D.d.name, D.ps.length)
def progOf (defs : List DS) : List Fn := defs.map fun D => D.fn
def scopeB (N ps : List Str) (sc : Scope) : Bool :=
  (match sc.kind with | .function => true | _ => false) && !sc.isCoroutine && !sc.isGenerator && decide N.Nodup && decide (N.take ps.length = ps) && ps.all (fun x => lookB sc x .local || lookB sc x .cell) && sc.names.all fun y => (match y.2 with | .free => false | _ => true)
theorem scopeB_ok {N ps : List Str} {sc : Scope} (h : scopeB N ps sc = true) : FnScope N ps sc := by
  unfold scopeB at h
  obtain ⟨h, h7⟩ := and2 h
  obtain ⟨h, h6⟩ := and2 h
  obtain ⟨h, h5⟩ := and2 h
  obtain ⟨h, h4⟩ := and2 h
  obtain ⟨h, h3⟩ := and2 h
  obtain ⟨h1, h2⟩ := and2 h
  rw [Bool.not_eq_true'] at h2 h3
  refine ⟨?_, h2, h3, of_decide_eq_true h4, of_decide_eq_true h5, fun x hx => ?_, fun y hy e => ?_⟩
  · split at h1
    · assumption
    · cases h1
  · have := List.all_eq_true.mp h6 x hx
    rcases (Bool.or_eq_true _ _).mp this with q | q
    · exact .inl (look_of q)
    · exact .inr (look_of q)
  · have := List.all_eq_true.mp h7 y hy
    rw [e] at this
    cases this
def okD (fns : List (Str × Nat)) (glos : List (Str × P)) (D : DS) : Bool := chkTs ⟨D.N, fns, glos⟩ D.d.scope D.fn.body D.d.body && decide (D.fn.np = D.ps.length) && decide (D.fn.n = D.N.length) && scopeB D.N D.ps D.d.scope && D.d.dfl.isEmpty && D.d.kwd.isEmpty
section
variable {K : PySem.W.Frag} {H H' : Hp}
theorem Reps.start {vs : List V} {ds : List D} {F : List Addr} (h : Reps K H vs ds F) (m : Nat) : EnvRep K H (vs.map some ++ List.replicate m none) (ds.map some ++ List.replicate m none) F := by
  induction h with
  | nil =>
    induction m with
    | zero => exact .nil
    | succ m ih => exact .ns ih
  | cons r _ ih => exact .sm r ih
theorem Reps.length {vs : List V} {ds : List D} {F : List Addr} (h : Reps K H vs ds F) : vs.length = ds.length := by
  induction h with
  | nil => rfl
  | cons _ _ ih => rw [List.length_cons, List.length_cons, ih]
theorem outs_set {asg : List Nat} {e : En} {j : Nat} {z : Option D} : ∀ {ds : List D} {i : Nat}, j < i → outs asg (e.set j z) ds i = outs asg e ds i
  | [], _, _ => by simp only [outs]
  | d :: ds, i, h => by
    have ih := outs_set (asg := asg) (e := e) (z := z) (ds := ds) (i := i + 1) (Nat.lt_succ_of_lt h)
    simp only [outs, ih]
    rw [getE_set_ne e z (Nat.ne_of_lt h)]
theorem outs_ok {asg : List Nat} {σ' : L2.St} : ∀ {vs : List V} {ds : List D} {Fs : List Addr}, Reps K H vs ds Fs → Keeps H H' → ∀ {e : En} {F : List Addr} {i : Nat} {rs : List D}, EnvRep K H' σ' e F → F.Nodup → (∀ j, j + i ∉ asg → ∀ v, vs[j]? = some v → σ'[j + i]? = some (some v)) → outs asg e ds i = some rs →
    ∃ Fr, Reps K H' vs rs Fr ∧ Fr.Nodup ∧ ∀ a, a ∈ Fr → a ∈ F := by
  intro vs ds Fs h kp
  induction h with
  | nil =>
    intro e F i rs he n _ ho
    simp only [outs, Option.some.injEq] at ho
    subst ho
    exact ⟨[], .nil, List.nodup_nil, fun a z => nomatch z⟩
  | @cons v vs d ds F0 G0 r _ ih =>
    intro e F i rs he n hs ho
    simp only [outs] at ho
    obtain ⟨r0, h1, ho⟩ := bind_some ho
    obtain ⟨rs', h2, ho⟩ := bind_some ho
    cases ho
    have hs' : ∀ j, j + (i + 1) ∉ asg → ∀ w, vs[j]? = some w → σ'[j + (i + 1)]? = some (some w) := fun j hj w hw => by
      have := hs (j + 1) (by rw [Nat.add_right_comm]; exact hj) w (by simpa using hw)
      rw [Nat.add_right_comm] at this
      exact this
    cases d with
    | imm p =>
      cases h1
      obtain ⟨rp, _⟩ := r.imm_of
      obtain ⟨Fr, g1, g2, g3⟩ := ih he n hs' h2
      exact ⟨[] ++ Fr, .cons (Rep.imm (rp.keep kp)) g1, g2, g3⟩
    | lst ps =>
      have h1 : (if asg.contains i then none else getE e i) = some r0 := h1
      split at h1
      · cases h1
      · rename_i hc
        have hi : i ∉ asg := fun z => hc (by simpa using z)
        obtain ⟨w, Fi, F', q1, q2, q3, q4, q5⟩ := he.out h1
        have e1 := hs 0 (by rw [Nat.zero_add]; exact hi) v (by simp)
        rw [Nat.zero_add, q1] at e1
        cases e1
        have n5 := q5 n
        obtain ⟨Fr, g1, g2, g3⟩ := ih q3 (nd_right n5) hs' (by rw [outs_set (Nat.lt_succ_self i)]; exact h2)
        refine ⟨Fi ++ Fr, .cons q2 g1, nd_mk (nd_left n5) g2 fun a z y => nd_off n5 a z (g3 a y), fun a z => q4 a ?_⟩
        rcases List.mem_append.mp z with z | z
        · exact List.mem_append_left _ z
        · exact List.mem_append_right _ (g3 a z)
end
theorem callF_succ {prog : List Fn} {G : List P} {k j : Nat} {ds : List D} {d : D} {rs : List D} (h : callF prog G (k + 1) j ds = some (d, rs)) : ∃ fn fl e', prog[j]? = some fn ∧ ds.length = fn.np ∧ exs (callF prog G k) G fn.body (ds.map some ++ List.replicate (fn.n - fn.np) none) = some (fl, e') ∧
    ((fl = .nx ∧ d = .imm .non) ∨ fl = .rt d) ∧ outs (asgTs fn.body) e' ds 0 = some rs := by
  unfold callF at h
  obtain ⟨fn, h1, h⟩ := bind_some h
  split at h
  · rename_i hl
    obtain ⟨⟨fl, e'⟩, h2, h⟩ := bind_some h
    cases fl with
    | nx =>
      obtain ⟨rs', h3, h⟩ := bind_some h
      cases h
      exact ⟨fn, .nx, e', h1, hl, h2, .inl ⟨rfl, rfl⟩, h3⟩
    | rt d' =>
      obtain ⟨rs', h3, h⟩ := bind_some h
      cases h
      exact ⟨fn, .rt _, e', h1, hl, h2, .inr rfl, h3⟩
    | bk => cases h
    | ct => cases h
  · cases h
structure World0 (K : PySem.W.Frag) (mg : Str → Option Value) (defs : List DS) (glos : List (Str × P)) : Prop where
  fns : ∀ D ∈ defs, mg D.d.name = some (.ref (He.fAd K D.d.at_)) ∧ ∃ fd, FunD K D.d.name D.d.qual D.d.params D.d.body D.d.scope (D.d.dvs K) (D.d.kws K) (He.fAd K D.d.at_) fd
  bind : ∀ D ∈ defs, ∀ (kV doc pm : Value) (an : Option Addr) (cdv ct : Value) (us : List Value), us.length = D.ps.length → bindArgs (PySem.W.fnOf D.d.name D.d.qual D.d.params D.d.body D.d.scope .none kV doc pm an cdv ct) ⟨us, []⟩ = pure (D.ps.zip us)
  chk : ∀ D ∈ defs, okD (fnsOf defs) glos D = true
  glos : ∀ (j : Nat) (x : Str) (p : P), glos[j]? = some (x, p) → ∃ (u : Value) (v : V), mg x = some u ∧ RelV v u ∧ ∀ H, PRep K H v p
  blt : ∀ x ∈ bltNames, mg x = none
section
variable {K : PySem.W.Frag} {mg : Str → Option Value} {defs : List DS} {glos : List (Str × P)}
theorem len_of {φ : List D → Option (D × List D)} {n : Nat} (h : ∀ ds d rs, φ ds = some (d, rs) → ds.length = n) : ∀ vs H Q E, spD K φ vs H Q E → vs.length = n := fun vs H Q E hs => by
  obtain ⟨ds, Fs, d, rs, h1, _, h3, _⟩ := hs
  rw [h1.length, h ds d rs h3]
theorem fn_all (Y : World0 K mg defs glos) (P' : Program) (w : World) (base : Heap) : ∀ (k j : Nat) (D : DS) (fd : FuncData), defs[j]? = some D → FunD K D.d.name D.d.qual D.d.params D.d.body D.d.scope (D.d.dvs K) (D.d.kws K) (He.fAd K D.d.at_) fd → Binds K fd D.ps [] ∧ PySem.W.keepIn K (.ref (He.fAd K D.d.at_)) = true ∧ (∀ (s : Shared) (us : List Value), us.length = D.ps.length → BindsTo s fd ⟨us, []⟩ (D.ps.zip us)) ∧
    FnOk P' w K mg base CX0 k (He.fAd K D.d.at_) fd D.ps (spD K (callF (progOf defs) (glos.map (·.2)) k j)) := by
  intro k
  induction k with
  | zero =>
    intro j D fd hj F
    have hm := List.mem_of_getElem? hj
    obtain ⟨h1, _⟩ := Y.fns D hm
    have hc := Y.chk D hm
    unfold okD at hc
    obtain ⟨hc, c6⟩ := and2 hc
    obtain ⟨hc, c5⟩ := and2 hc
    have ed : D.d.dvs K = [] := by unfold He.DefD.dvs; rw [List.isEmpty_iff.mp c5] <;> rfl
    rw [ed] at F
    refine ⟨F.bindsN (Y.bind D hm), F.kp, F.bindsA (Y.bind D hm), ⟨fun vs H Q E hs => ?_, fun A outer s H args us vs Q E _ _ _ _ hs => ?_⟩⟩
    · obtain ⟨ds, Fs, d, rs, _, _, h3, _⟩ := hs
      simp [callF] at h3
    · obtain ⟨ds, Fs, d, rs, _, _, h3, _⟩ := hs
      simp [callF] at h3
  | succ k ih =>
    intro j D fd hj F
    have hm := List.mem_of_getElem? hj
    obtain ⟨h1, _⟩ := Y.fns D hm
    have hc := Y.chk D hm
    unfold okD at hc
    obtain ⟨hc, c6⟩ := and2 hc
    obtain ⟨hc, c5⟩ := and2 hc
    obtain ⟨hc, c4⟩ := and2 hc
    obtain ⟨hc, c3⟩ := and2 hc
    obtain ⟨c1, c2⟩ := and2 hc
    have c2 := of_decide_eq_true c2
    have c3 := of_decide_eq_true c3
    have S := scopeB_ok c4
    have hpr : (progOf defs)[j]? = some D.fn := by unfold progOf; rw [List.getElem?_map, hj] <;> rfl
    have ed : D.d.dvs K = [] := by unfold He.DefD.dvs; rw [List.isEmpty_iff.mp c5] <;> rfl
    rw [ed] at F
    refine ⟨F.bindsN (Y.bind D hm), F.kp, F.bindsA (Y.bind D hm), F.ok S (len_of fun ds d rs hs => ?_) fun cdv A outer s H vs Q E hr hsp => ?_⟩
    · obtain ⟨fn, fl, e', g1, g2, _⟩ := callF_succ hs
      rw [hpr] at g1
      cases g1
      rw [g2, c2]
    · obtain ⟨ds, Fs, d, rs, r1, r2, r3, r4⟩ := hsp
      obtain ⟨fn, fl, e', g1, g2, g3, g4, g5⟩ := callF_succ r3
      rw [hpr] at g1
      cases g1
      have good : Good ⟨D.N, fnsOf defs, glos⟩ (callF (progOf defs) (glos.map (·.2)) k) k D.d.scope (cxOf CX0 P' w K mg base D.N D.d.qual D.d.scope (He.fAd K D.d.at_) cdv A outer s H E) := by
        refine ⟨rfl, S.nd, rfl, hr, rfl, Y.glos, fun j' x n hx => ?_, Y.blt⟩
        have hx : (fnsOf defs)[j']? = some (x, n) := hx
        unfold fnsOf at hx
        rw [List.getElem?_map] at hx
        cases q : defs[j']? with
        | none => rw [q] at hx; cases hx
        | some D' =>
          rw [q] at hx
          cases hx
          obtain ⟨m1, fd', F'⟩ := Y.fns D' (List.mem_of_getElem? q)
          obtain ⟨b1, b2, _, b3⟩ := ih j' D' fd' q F'
          exact ⟨_, fd', D'.ps, m1, b2, b1, rfl, b3⟩
      have dcx : DefCx (cxOf CX0 P' w K mg base D.N D.d.qual D.d.scope (He.fAd K D.d.at_) cdv A outer s H E) := ⟨rfl, passes_of rfl, S.kind⟩
      refine ⟨_, sndTs D.fn.body good dcx c1, ?_⟩
      have hlen : D.fn.n - D.fn.np = D.N.length - vs.length := by rw [c3, r1.length, g2]
      refine ⟨ds.map some ++ List.replicate (D.fn.n - D.fn.np) none, Fs, fl, e', ?_, r2, g3, ?_⟩
      · unfold L2.start
        rw [← hlen]
        exact r1.start _
      · have fin : ∀ v σ' H' Fd F', Rep K H' v d Fd → EnvRep K H' σ' e' F' → (Fd ++ F').Nodup → Stp H Fs H' (Fd ++ F') → Agr (asgTs D.fn.body) (L2.start D.N vs) σ' → Q v H' := fun v σ' H' Fd F' q1 q2 q3 q4 q5 => by
          have kp := q4.keeps r1.mut
          obtain ⟨Fr, m1, m2, m3⟩ := outs_ok (i := 0) r1 kp q2 (nd_right q3) (fun j hj u hu => by
            rw [q5.2 (j + 0) hj]
            unfold L2.start
            rw [Nat.add_zero, List.getElem?_append_left (by rw [List.length_map]; exact (List.getElem?_eq_some_iff.mp hu).1), List.getElem?_map, hu] <;> rfl) g5
          exact r4 v H' Fd Fr q1 m1 (nd_mk (nd_left q3) m2 fun a z y => nd_off q3 a z (m3 a y)) (stp_pick q4 fun a z => (List.mem_append.mp z).elim (fun z => List.mem_append_left _ z) fun z => List.mem_append_right _ (m3 a z))
        rcases g4 with ⟨rfl, rfl⟩ | rfl
        · exact fun σ' H' F' q2 q3 q4 q5 => fin .non σ' H' [] F' (Rep.imm .non) q2 q3 q4 q5
        · exact fin
/-- the law's promise -/
theorem law_sp {prog : List Fn} {G : List P} {k j : Nat} (h : ∀ ns : List Int, ns.length ≤ 63 → ∃ rs, callF prog G k j [.imm (.lst (ns.map P.int))] = some (.imm (.bl true), rs)) (H : Hp) (a : Addr) (ns : List Int) (hl : ns.length ≤ 63) (ho : Only H) (hs : SqL K H a (ns.map V.int)) :
    spD K (callF prog G k j) [.ref a] H (fun v _ => v = .bl true) fun _ _ _ => False := by
  obtain ⟨rs, hc⟩ := h ns hl
  have hf : FzL K H a (ns.map V.int) := by
    rcases hs with (hs | ⟨o, hs⟩) | hs
    · rcases ho a with e | ⟨o, xs, e⟩
      · rw [e] at hs; cases hs
      · rw [e] at hs; cases hs
    · exact .inl ⟨o, hs⟩
    · exact .inr hs
  refine ⟨_, [], _, rs, .cons (Rep.imm (.lst hf (PReps.ints ns))) .nil, List.nodup_nil, hc, fun v H' Fd Fr r _ _ _ => ?_⟩
  exact r.bl_of
end
end Sw
namespace Sw
namespace k15
def FUEL : Nat := 1000000000
/-- is_word: 0 value, 1 letters, 2 most, 3 letter -/
def b_is_word : List T :=
  [.ret (.and [(.op (.isi [.str]) [(.nm 0)]), (.op .le [(.op .len [(.nm 0)]), (.nm 2)]), (.op .all [(.cmp [3] (.nm 3) .seq [(.nm 0)] [] (.op .isin [(.nm 3), (.nm 1)]))])])]
def f_is_word : Fn := ⟨3, 4, b_is_word⟩
/-- root_of: 0 word, 1 size -/
def b_root_of : List T :=
  [.fors (.nm 1) .rng2 [(.cst (.int 1)), (.op .add [(.op .len [(.nm 0)]), (.cst (.int 1))])] [.ifs (.and [(.op .eq [(.op .mod [(.op .len [(.nm 0)]), (.nm 1)]), (.cst (.int 0))]), (.op .eq [(.op .mul [(.slc (.nm 0) none (some (.nm 1))), (.op .fdiv [(.op .len [(.nm 0)]), (.nm 1)])]), (.nm 0)])]) [.ret (.tup [(.frz (.slc (.nm 0) none (some (.nm 1)))), (.op .fdiv [(.op .len [(.nm 0)]), (.nm 1)])])] []], .ret (.tup [(.frz (.nm 0)), (.cst (.int 1))])]
def f_root_of : Fn := ⟨1, 2, b_root_of⟩
/-- turned_by: 0 word, 1 at -/
def b_turned_by : List T :=
  [.ret (.op .add [(.slc (.nm 0) (some (.nm 1)) none), (.slc (.nm 0) none (some (.nm 1)))])]
def f_turned_by : Fn := ⟨2, 2, b_turned_by⟩
/-- least_rotation: 0 word, 1 at -/
def b_least_rotation : List T :=
  [.ret (.op .minL [(.cmp [1] (.nm 1) .rng1 [(.op .max2 [(.cst (.int 1)), (.op .len [(.nm 0)])])] [] (.tup [(.frz (.call 2 [(.nm 0), (.nm 1)])), (.frz (.nm 1))]))])]
def f_least_rotation : Fn := ⟨1, 2, b_least_rotation⟩
/-- inverse_word: 0 word -/
def b_inverse_word : List T :=
  [.ret (.mth .swapcase (.op .rev [(.nm 0)]) [])]
def f_inverse_word : Fn := ⟨1, 1, b_inverse_word⟩
/-- reduced: 0 word, 1 found, 2 letter -/
def b_reduced : List T :=
  [.asg (.nm 1) (.cst (.str [])), .fors (.nm 2) .seq [(.nm 0)] [.ifs (.and [(.op .ne [(.nm 1), (.cst (.str []))]), (.op .eq [(.op .idx [(.nm 1), (.op .neg [(.cst (.int 1))])]), (.mth .swapcase (.nm 2) [])])]) [.asg (.nm 1) (.slc (.nm 1) none (some (.op .neg [(.cst (.int 1))])))] [.aug 1 .add (.nm 2)]], .ret (.nm 1)]
def f_reduced : Fn := ⟨1, 3, b_reduced⟩
/-- product: 0 u, 1 v -/
def b_product : List T :=
  [.ret (.call 5 [(.op .add [(.nm 0), (.nm 1)])])]
def f_product : Fn := ⟨2, 2, b_product⟩
/-- core: 0 word, 1 k -/
def b_core : List T :=
  [.asg (.nm 0) (.call 5 [(.nm 0)]), .asg (.nm 1) (.cst (.int 0)), .whl FUEL (.and [(.op .gt [(.op .len [(.nm 0)]), (.op .add [(.op .mul [(.cst (.int 2)), (.nm 1)]), (.cst (.int 1))])]), (.op .eq [(.op .idx [(.nm 0), (.nm 1)]), (.mth .swapcase (.op .idx [(.nm 0), (.op .sub [(.op .sub [(.op .len [(.nm 0)]), (.cst (.int 1))]), (.nm 1)])]) [])])]) [.aug 1 .add (.cst (.int 1))], .ret (.tup [(.frz (.slc (.nm 0) none (some (.nm 1)))), (.frz (.slc (.nm 0) (some (.nm 1)) (some (.op .sub [(.op .len [(.nm 0)]), (.nm 1)]))))])]
def f_core : Fn := ⟨1, 2, b_core⟩
/-- moved_paper: 0 u, 1 v, 2 turned, 3 back, 4 first, 5 second, 6 by, 7 inner, 8 other, 9 goal -/
def b_moved_paper : List T :=
  [.asg (.tp [(.tp [(.nm 6), (.nm 7)]), (.tp [(.nm 8), (.nm 9)])]) (.tup [(.frz (.call 7 [(.nm 0)])), (.frz (.call 7 [(.nm 1)]))]), .par [4, 5] [(.call 3 [(.nm 7)]), (.call 3 [(.nm 9)])], .ifs (.op .ne [(.op .idx [(.nm 4), (.cst (.int 0))]), (.op .idx [(.nm 5), (.cst (.int 0))])]) [.ret (.tup [(.cst (.str [117, 110, 108, 105, 107, 101])), (.op .idx [(.nm 4), (.cst (.int 0))]), (.op .idx [(.nm 5), (.cst (.int 0))])])] [], .asg (.nm 2) (.slc (.nm 7) none (some (.op .idx [(.nm 4), (.cst (.int 1))]))), .asg (.nm 3) (.slc (.nm 9) none (some (.op .idx [(.nm 5), (.cst (.int 1))]))), .ret (.tup [(.cst (.str [109, 111, 118, 101, 100])), (.frz (.call 5 [(.op .add [(.op .add [(.op .add [(.nm 6), (.nm 2)]), (.call 4 [(.nm 3)])]), (.call 4 [(.nm 8)])])]))])]
def f_moved_paper : Fn := ⟨2, 10, b_moved_paper⟩
/-- judge_moved: 0 u, 1 v, 2 value, 3 by, 4 one -/
def b_judge_moved : List T :=
  [.ifs (.or [(.not (.op (.isi [.tuple]) [(.nm 2)])), (.op .notin [(.op .len [(.nm 2)]), (.tup [(.cst (.int 2)), (.cst (.int 3))])]), (.not (.op .all [(.cmp [4] (.nm 4) .seq [(.nm 2)] [] (.op (.isi [.str]) [(.nm 4)]))]))]) [.ret (.cst (.bl false))] [], .ifs (.op .eq [(.op .idx [(.nm 2), (.cst (.int 0))]), (.cst (.str [117, 110, 108, 105, 107, 101]))]) [.ret (.op .eq [(.call 8 [(.nm 0), (.nm 1)]), (.nm 2)])] [], .ifs (.or [(.op .ne [(.op .idx [(.nm 2), (.cst (.int 0))]), (.cst (.str [109, 111, 118, 101, 100]))]), (.op .ne [(.op .len [(.nm 2)]), (.cst (.int 2))]), (.not (.call 0 [(.op .idx [(.nm 2), (.cst (.int 1))]), (.glo 0), (.cst (.int 4000))]))]) [.ret (.cst (.bl false))] [], .asg (.nm 3) (.op .idx [(.nm 2), (.cst (.int 1))]), .ret (.and [(.op .eq [(.call 5 [(.nm 3)]), (.nm 3)]), (.op .eq [(.call 5 [(.op .add [(.op .add [(.call 4 [(.nm 3)]), (.nm 0)]), (.nm 3)])]), (.call 5 [(.nm 1)])])])]
def f_judge_moved : Fn := ⟨3, 5, b_judge_moved⟩
/-- root_of_group: 0 word, 1 by, 2 inner, 3 root, 4 times -/
def b_root_of_group : List T :=
  [.asg (.tp [(.nm 1), (.nm 2)]) (.frz (.call 7 [(.nm 0)])), .asg (.tp [(.nm 3), (.nm 4)]) (.frz (.call 1 [(.nm 2)])), .ret (.tup [(.frz (.call 5 [(.op .add [(.op .add [(.nm 1), (.nm 3)]), (.call 4 [(.nm 1)])])])), (.frz (.nm 4))])]
def f_root_of_group : Fn := ⟨1, 5, b_root_of_group⟩
/-- _law_start: 0 script, 1 cell -/
def b__law_start : List T :=
  [.ret (.lst [(.frz (.cmp [1] (.nm 1) .seq [(.slc (.nm 0) none (some (.cst (.int 63))))] [] (.op .int [(.nm 1)]))), (.cst (.int 0)), (.cst (.int 0)), (.cst (.int 0)), (.cst (.int 20))])]
def f__law_start : Fn := ⟨1, 2, b__law_start⟩
/-- _law_fill: 0 c, 1 number -/
def b__law_fill : List T :=
  [.sto 0 (.cst (.int 3)) (.op .add [(.op .idx [(.nm 0), (.cst (.int 3))]), (.cst (.int 1))]), .asg (.nm 1) (.op .add [(.op .mul [(.op .idx [(.nm 0), (.cst (.int 3))]), (.cst (.int 69621))]), (.cst (.int 12345))]), .ifs (.op .lt [(.op .idx [(.nm 0), (.cst (.int 1))]), (.op .len [(.op .idx [(.nm 0), (.cst (.int 0))])])]) [.asg (.nm 1) (.op .idx [(.op .idx [(.nm 0), (.cst (.int 0))]), (.op .idx [(.nm 0), (.cst (.int 1))])]), .sto 0 (.cst (.int 1)) (.op .add [(.op .idx [(.nm 0), (.cst (.int 1))]), (.cst (.int 1))]), .ifs (.op .lt [(.nm 1), (.cst (.int 0))]) [.asg (.nm 1) (.op .sub [(.op .sub [(.cst (.int 0)), (.cst (.int 1))]), (.nm 1)])] [], .ifs (.op .ge [(.nm 1), (.op .pow [(.cst (.int 10)), (.cst (.int 18))])]) [.ret (.nm 1)] []] [], .ifs (.and [(.op .idx [(.nm 0), (.cst (.int 0))]), (.op .ge [(.op .idx [(.nm 0), (.cst (.int 1))]), (.op .len [(.op .idx [(.nm 0), (.cst (.int 0))])])])]) [.asg (.nm 1) (.op .add [(.nm 1), (.op .mod [(.op .int [(.op .idx [(.op .idx [(.nm 0), (.cst (.int 0))]), (.op .neg [(.cst (.int 1))])])]), (.cst (.int 1000003))])])] [], .asg (.nm 1) (.op .mod [(.op .int [(.op .add [(.op .mul [(.nm 1), (.cst (.int 48271))]), (.op .mul [(.op .idx [(.nm 0), (.cst (.int 3))]), (.cst (.int 69621))])])]), (.cst (.int 2147483647))]), .ret (.op .add [(.op .fdiv [(.op .int [(.op .add [(.op .add [(.op .mul [(.nm 1), (.nm 1)]), (.op .mul [(.op .idx [(.nm 0), (.cst (.int 3))]), (.cst (.int 7919))])]), (.cst (.int 11))])]), (.cst (.int 64))]), (.cst (.int 36028797018963968))])]
def f__law_fill : Fn := ⟨1, 2, b__law_fill⟩
/-- _law_take: 0 c, 1 many, 2 digit -/
def b__law_take : List T :=
  [.ifs (.op .lt [(.op .idx [(.nm 0), (.cst (.int 2))]), (.nm 1)]) [.sto 0 (.cst (.int 2)) (.frz (.call 12 [(.nm 0)]))] [], .asg (.nm 2) (.op .mod [(.op .int [(.op .idx [(.nm 0), (.cst (.int 2))])]), (.nm 1)]), .sto 0 (.cst (.int 2)) (.op .fdiv [(.op .idx [(.nm 0), (.cst (.int 2))]), (.nm 1)]), .ret (.nm 2)]
def f__law_take : Fn := ⟨2, 3, b__law_take⟩
/-- _law_alike: 0 value, 1 due, 2 k -/
def b__law_alike : List T :=
  [.ifs (.op (.isi [.tuple]) [(.nm 1)]) [.ret (.and [(.op (.isi [.tuple]) [(.nm 0)]), (.op .eq [(.op .len [(.nm 0)]), (.op .len [(.nm 1)])]), (.op .all [(.cmp [2] (.nm 2) .rng1 [(.op .len [(.nm 1)])] [] (.frz (.call 14 [(.op .idx [(.nm 0), (.nm 2)]), (.op .idx [(.nm 1), (.nm 2)])])))])])] [], .ifs (.or [(.op .isN [(.nm 1)]), (.op .isN [(.nm 0)]), (.op (.isi [.bool]) [(.nm 0)]), (.op .ne [(.op (.isi [.str]) [(.nm 0)]), (.op (.isi [.str]) [(.nm 1)])])]) [.ret (.and [(.op .isN [(.nm 0)]), (.op .isN [(.nm 1)])])] [], .ret (.and [(.op (.isi [.int, .str]) [(.nm 0)]), (.op .eq [(.nm 0), (.nm 1)])])]
def f__law_alike : Fn := ⟨2, 3, b__law_alike⟩
/-- _law_word: 0 c, 1 most, 2 k -/
def b__law_word : List T :=
  [.ret (.mth .join (.cst (.str [])) [(.cmp [2] (.nm 2) .rng1 [(.call 13 [(.nm 0), (.op .add [(.nm 1), (.cst (.int 1))])])] [] (.op .idx [(.cst (.str [97, 98, 99, 65, 66, 67])), (.call 13 [(.nm 0), (.cst (.int 6))])]))])]
def f__law_word : Fn := ⟨2, 3, b__law_word⟩
/-- _law_turned: 0 letter -/
def b__law_turned : List T :=
  [.ret (.ife (.op .eq [(.nm 0), (.mth .lower (.nm 0) [])]) (.mth .upper (.nm 0) []) (.mth .lower (.nm 0) []))]
def f__law_turned : Fn := ⟨1, 1, b__law_turned⟩
/-- _law_reduced: 0 word, 1 turn, 2 k -/
def b__law_reduced : List T :=
  [.fors (.nm 1) .rng1 [(.op .len [(.nm 0)])] [.fors (.nm 2) .rng1 [(.op .sub [(.op .len [(.nm 0)]), (.cst (.int 1))])] [.ifs (.op .eq [(.op .idx [(.nm 0), (.nm 2)]), (.call 16 [(.op .idx [(.nm 0), (.op .add [(.nm 2), (.cst (.int 1))])])])]) [.asg (.nm 0) (.op .add [(.slc (.nm 0) none (some (.nm 2))), (.slc (.nm 0) (some (.op .add [(.nm 2), (.cst (.int 2))])) none)]), .brk] []]], .ret (.nm 0)]
def f__law_reduced : Fn := ⟨1, 3, b__law_reduced⟩
/-- _law_inverse: 0 word, 1 letter -/
def b__law_inverse : List T :=
  [.ret (.mth .join (.cst (.str [])) [(.cmp [1] (.nm 1) .seq [(.op .rev [(.nm 0)])] [] (.frz (.call 16 [(.nm 1)])))])]
def f__law_inverse : Fn := ⟨1, 2, b__law_inverse⟩
/-- _law_core: 0 word, 1 turn, 2 by, 3 inner -/
def b__law_core : List T :=
  [.par [2, 3] [(.cst (.str [])), (.call 17 [(.nm 0)])], .fors (.nm 1) .rng1 [(.op .len [(.nm 3)])] [.ifs (.and [(.op .gt [(.op .len [(.nm 3)]), (.cst (.int 1))]), (.op .eq [(.op .idx [(.nm 3), (.cst (.int 0))]), (.call 16 [(.op .idx [(.nm 3), (.op .sub [(.op .len [(.nm 3)]), (.cst (.int 1))])])])])]) [.par [2, 3] [(.op .add [(.nm 2), (.op .idx [(.nm 3), (.cst (.int 0))])]), (.slc (.nm 3) (some (.cst (.int 1))) (some (.op .sub [(.op .len [(.nm 3)]), (.cst (.int 1))])))]] []], .ret (.tup [(.frz (.nm 2)), (.frz (.nm 3))])]
def f__law_core : Fn := ⟨1, 4, b__law_core⟩
/-- _law_rotations: 0 word, 1 k -/
def b__law_rotations : List T :=
  [.ret (.ife (.nm 0) (.cmp [1] (.nm 1) .rng1 [(.op .len [(.nm 0)])] [] (.frz (.op .add [(.slc (.nm 0) (some (.nm 1)) none), (.slc (.nm 0) none (some (.nm 1)))]))) (.lst [(.cst (.str []))]))]
def f__law_rotations : Fn := ⟨1, 2, b__law_rotations⟩
/-- _law_is_moved: 0 u, 1 v, 2 value, 3 by, 4 first, 5 second, 6 word, 7 letter, 8 one -/
def b__law_is_moved : List T :=
  [.ifs (.or [(.not (.op (.isi [.tuple]) [(.nm 2)])), (.op .lt [(.op .len [(.nm 2)]), (.cst (.int 2))]), (.not (.op .all [(.cmp [8] (.nm 8) .seq [(.nm 2)] [] (.op (.isi [.str]) [(.nm 8)]))]))]) [.ret (.cst (.bl false))] [], .asg (.tp [(.nm 4), (.nm 5)]) (.frz (.cmp [6] (.nm 6) .seq [(.tup [(.frz (.nm 0)), (.frz (.nm 1))])] [] (.op .idx [(.op .sorted [(.call 20 [(.op .idx [(.call 19 [(.nm 6)]), (.cst (.int 1))])])]), (.cst (.int 0))]))), .ifs (.op .eq [(.op .idx [(.nm 2), (.cst (.int 0))]), (.cst (.str [117, 110, 108, 105, 107, 101]))]) [.ret (.and [(.op .ne [(.nm 4), (.nm 5)]), (.op .eq [(.nm 2), (.tup [(.cst (.str [117, 110, 108, 105, 107, 101])), (.frz (.nm 4)), (.frz (.nm 5))])])])] [], .ifs (.or [(.op .ne [(.op .idx [(.nm 2), (.cst (.int 0))]), (.cst (.str [109, 111, 118, 101, 100]))]), (.op .ne [(.op .len [(.nm 2)]), (.cst (.int 2))]), (.op .any [(.cmp [7] (.nm 7) .seq [(.op .idx [(.nm 2), (.cst (.int 1))])] [] (.op .notin [(.nm 7), (.cst (.str [97, 98, 99, 65, 66, 67]))]))])]) [.ret (.cst (.bl false))] [], .asg (.nm 3) (.op .idx [(.nm 2), (.cst (.int 1))]), .ret (.and [(.op .eq [(.call 17 [(.nm 3)]), (.nm 3)]), (.op .eq [(.call 17 [(.op .add [(.op .add [(.call 18 [(.nm 3)]), (.nm 0)]), (.nm 3)])]), (.call 17 [(.nm 1)])])])]
def f__law_is_moved : Fn := ⟨3, 9, b__law_is_moved⟩
/-- _law_power: 0 word, 1 many -/
def b__law_power : List T :=
  [.ret (.call 17 [(.op .mul [(.nm 0), (.nm 1)])])]
def f__law_power : Fn := ⟨2, 2, b__law_power⟩
/-- law: 0 script, 1 c, 2 u, 3 by, 4 kind, 5 v, 6 word, 7 told, 8 bent, 9 value, 10 times, 11 root, 12 first, 13 second, 14 ahead, 15 inner, 16 k -/
def b_law : List T :=
  [.asg (.nm 1) (.call 11 [(.nm 0)]), .asg (.nm 2) (.call 15 [(.nm 1), (.cst (.int 8))]), .asg (.nm 3) (.call 15 [(.nm 1), (.cst (.int 4))]), .asg (.nm 4) (.call 13 [(.nm 1), (.cst (.int 4))]), .asg (.nm 5) (.ife (.op .eq [(.nm 4), (.cst (.int 0))]) (.call 15 [(.nm 1), (.cst (.int 8))]) (.ife (.op .eq [(.nm 4), (.cst (.int 1))]) (.op .add [(.op .add [(.call 18 [(.nm 3)]), (.nm 2)]), (.nm 3)]) (.op .add [(.slc (.nm 2) (some (.cst (.int 2))) none), (.slc (.nm 2) none (some (.cst (.int 2))))]))), .ifs (.op .eq [(.nm 4), (.cst (.int 3))]) [.asg (.nm 2) (.op .add [(.op .add [(.nm 3), (.op .mul [(.nm 2), (.cst (.int 3))])]), (.call 18 [(.nm 3)])])] [], .fors (.nm 6) .seq [(.tup [(.frz (.nm 2)), (.frz (.nm 5)), (.frz (.nm 3))])] [.ifs (.or [(.not (.call 14 [(.call 5 [(.nm 6)]), (.call 17 [(.nm 6)])])), (.not (.call 14 [(.call 4 [(.nm 6)]), (.call 18 [(.nm 6)])]))]) [.ret (.cst (.bl false))] [], .ifs (.not (.call 14 [(.call 7 [(.call 17 [(.nm 6)])]), (.call 19 [(.nm 6)])])) [.ret (.cst (.bl false))] []], .ifs (.or [(.not (.call 14 [(.call 6 [(.nm 2), (.nm 5)]), (.call 17 [(.op .add [(.nm 2), (.nm 5)])])])), (.op .ne [(.call 17 [(.op .add [(.nm 2), (.call 18 [(.nm 2)])])]), (.cst (.str []))])]) [.ret (.cst (.bl false))] [], .asg (.nm 7) (.call 8 [(.nm 2), (.nm 5)]), .asg (.tp [(.nm 12), (.nm 13)]) (.frz (.cmp [6] (.nm 6) .seq [(.tup [(.frz (.nm 2)), (.frz (.nm 5))])] [] (.op .idx [(.op .sorted [(.call 20 [(.op .idx [(.call 19 [(.nm 6)]), (.cst (.int 1))])])]), (.cst (.int 0))]))), .ifs (.or [(.and [(.op .ne [(.nm 12), (.nm 13)]), (.not (.call 14 [(.nm 7), (.tup [(.cst (.str [117, 110, 108, 105, 107, 101])), (.frz (.nm 12)), (.frz (.nm 13))])]))]), (.not (.call 21 [(.nm 2), (.nm 5), (.nm 7)]))]) [.ret (.cst (.bl false))] [], .asg (.nm 8) (.lst [(.frz (.nm 7)), (.tup [(.cst (.str [109, 111, 118, 101, 100])), (.frz (.nm 3))]), (.tup [(.cst (.str [109, 111, 118, 101, 100])), (.op .add [(.op .idx [(.nm 7), (.cst (.int 1))]), (.cst (.str [97]))])]), (.tup [(.cst (.str [109, 111, 118, 101, 100])), (.op .add [(.op .idx [(.nm 7), (.cst (.int 1))]), (.cst (.str [97, 65]))])]), (.tup [(.cst (.str [109, 111, 118, 101, 100])), (.cst (.str []))]), (.frz (.slc (.nm 7) none (some (.cst (.int 1))))), (.frz (.op .list [(.nm 7)]))]), .ex (.mut .extend 8 [(.lst [(.tup [(.cst (.str [117, 110, 108, 105, 107, 101])), (.frz (.nm 12)), (.frz (.nm 13))]), (.tup [(.cst (.str [117, 110, 108, 105, 107, 101])), (.frz (.nm 13)), (.frz (.nm 12))]), (.tup [(.cst (.str [109, 111, 118, 101, 100])), (.frz (.call 17 [(.op .add [(.nm 2), (.op .idx [(.nm 7), (.cst (.int 1))])])]))]), (.tup [(.cst (.str [109, 111, 118, 101, 100])), (.cst (.int 1))])])]), .fors (.nm 9) .seq [(.nm 8)] [.ifs (.op .ne [(.op .repr [(.call 9 [(.nm 2), (.nm 5), (.nm 9)])]), (.op .repr [(.call 21 [(.nm 2), (.nm 5), (.nm 9)])])]) [.ret (.cst (.bl false))] []], .asg (.nm 6) (.call 17 [(.nm 2)]), .ifs (.op .eq [(.nm 6), (.cst (.str []))]) [.ret (.cst (.bl true))] [], .asg (.nm 7) (.call 10 [(.nm 6)]), .ifs (.or [(.not (.op (.isi [.tuple]) [(.nm 7)])), (.op .ne [(.op .len [(.nm 7)]), (.cst (.int 2))]), (.not (.op (.isi [.str]) [(.op .idx [(.nm 7), (.cst (.int 0))])])), (.op (.isi [.bool]) [(.op .idx [(.nm 7), (.cst (.int 1))])])]) [.ret (.cst (.bl false))] [], .asg (.tp [(.nm 14), (.nm 15)]) (.frz (.call 19 [(.nm 6)])), .asg (.nm 10) (.cmp [16] (.nm 16) .rng2 [(.cst (.int 1)), (.op .add [(.op .len [(.nm 15)]), (.cst (.int 1))])] [(.and [(.op .eq [(.op .mod [(.op .len [(.nm 15)]), (.nm 16)]), (.cst (.int 0))]), (.op .eq [(.op .mul [(.slc (.nm 15) none (some (.op .fdiv [(.op .len [(.nm 15)]), (.nm 16)]))), (.nm 16)]), (.nm 15)])])] (.frz (.nm 16))), .asg (.nm 11) (.call 17 [(.op .add [(.op .add [(.nm 14), (.slc (.nm 15) none (some (.op .fdiv [(.op .len [(.nm 15)]), (.op .maxL [(.nm 10)])])))]), (.call 18 [(.nm 14)])])]), .ret (.and [(.call 14 [(.nm 7), (.tup [(.frz (.nm 11)), (.op .maxL [(.nm 10)])])]), (.op .eq [(.call 22 [(.nm 11), (.op .maxL [(.nm 10)])]), (.nm 6)])])]
def f_law : Fn := ⟨1, 17, b_law⟩
def prog : List Fn := [f_is_word, f_root_of, f_turned_by, f_least_rotation, f_inverse_word, f_reduced, f_product, f_core, f_moved_paper, f_judge_moved, f_root_of_group, f__law_start, f__law_fill, f__law_take, f__law_alike, f__law_word, f__law_turned, f__law_reduced, f__law_inverse, f__law_core, f__law_rotations, f__law_is_moved, f__law_power, f_law]
def glos : List (PySem.Str × P) := [("SIGNS", (.str [97, 98, 99, 65, 66, 67]))]
def G : List P := glos.map (·.2)
end k15
end Sw
set_option maxHeartbeats 0
namespace Sw
namespace k15
open PySem PySem.Spec PyProof.Rows L2
def top (i : Nat) : Stmt := PySem.Challenge.pw_signworth_k15_words_that_cancel.main.body.getD i (.Pass ⟨0, 0, 0, 0⟩)
def d_is_word : He.DefD := ⟨("is_word", none), "is_word", "is_word", defArgs (top 1), defBody (top 1), defScope (top 1), [], []⟩
def d_root_of : He.DefD := ⟨("root_of", none), "root_of", "root_of", defArgs (top 3), defBody (top 3), defScope (top 3), [], []⟩
def d_turned_by : He.DefD := ⟨("turned_by", none), "turned_by", "turned_by", defArgs (top 4), defBody (top 4), defScope (top 4), [], []⟩
def d_least_rotation : He.DefD := ⟨("least_rotation", none), "least_rotation", "least_rotation", defArgs (top 5), defBody (top 5), defScope (top 5), [], []⟩
def d_inverse_word : He.DefD := ⟨("inverse_word", none), "inverse_word", "inverse_word", defArgs (top 8), defBody (top 8), defScope (top 8), [], []⟩
def d_reduced : He.DefD := ⟨("reduced", none), "reduced", "reduced", defArgs (top 9), defBody (top 9), defScope (top 9), [], []⟩
def d_product : He.DefD := ⟨("product", none), "product", "product", defArgs (top 10), defBody (top 10), defScope (top 10), [], []⟩
def d_core : He.DefD := ⟨("core", none), "core", "core", defArgs (top 11), defBody (top 11), defScope (top 11), [], []⟩
def d_moved_paper : He.DefD := ⟨("moved_paper", none), "moved_paper", "moved_paper", defArgs (top 12), defBody (top 12), defScope (top 12), [], []⟩
def d_judge_moved : He.DefD := ⟨("judge_moved", none), "judge_moved", "judge_moved", defArgs (top 13), defBody (top 13), defScope (top 13), [], []⟩
def d_root_of_group : He.DefD := ⟨("root_of_group", none), "root_of_group", "root_of_group", defArgs (top 14), defBody (top 14), defScope (top 14), [], []⟩
def d__law_start : He.DefD := ⟨("_law_start", none), "_law_start", "_law_start", defArgs (top 16), defBody (top 16), defScope (top 16), [], []⟩
def d__law_fill : He.DefD := ⟨("_law_fill", none), "_law_fill", "_law_fill", defArgs (top 17), defBody (top 17), defScope (top 17), [], []⟩
def d__law_take : He.DefD := ⟨("_law_take", none), "_law_take", "_law_take", defArgs (top 18), defBody (top 18), defScope (top 18), [], []⟩
def d__law_alike : He.DefD := ⟨("_law_alike", none), "_law_alike", "_law_alike", defArgs (top 19), defBody (top 19), defScope (top 19), [], []⟩
def d__law_word : He.DefD := ⟨("_law_word", none), "_law_word", "_law_word", defArgs (top 20), defBody (top 20), defScope (top 20), [], []⟩
def d__law_turned : He.DefD := ⟨("_law_turned", none), "_law_turned", "_law_turned", defArgs (top 21), defBody (top 21), defScope (top 21), [], []⟩
def d__law_reduced : He.DefD := ⟨("_law_reduced", none), "_law_reduced", "_law_reduced", defArgs (top 22), defBody (top 22), defScope (top 22), [], []⟩
def d__law_inverse : He.DefD := ⟨("_law_inverse", none), "_law_inverse", "_law_inverse", defArgs (top 23), defBody (top 23), defScope (top 23), [], []⟩
def d__law_core : He.DefD := ⟨("_law_core", none), "_law_core", "_law_core", defArgs (top 24), defBody (top 24), defScope (top 24), [], []⟩
def d__law_rotations : He.DefD := ⟨("_law_rotations", none), "_law_rotations", "_law_rotations", defArgs (top 25), defBody (top 25), defScope (top 25), [], []⟩
def d__law_is_moved : He.DefD := ⟨("_law_is_moved", none), "_law_is_moved", "_law_is_moved", defArgs (top 26), defBody (top 26), defScope (top 26), [], []⟩
def d__law_power : He.DefD := ⟨("_law_power", none), "_law_power", "_law_power", defArgs (top 27), defBody (top 27), defScope (top 27), [], []⟩
def d_law : He.DefD := ⟨("law", none), "law", "law", defArgs (top 28), defBody (top 28), defScope (top 28), [], []⟩
def fn : List He.DefD := [d_is_word, d_root_of, d_turned_by, d_least_rotation, d_inverse_word, d_reduced, d_product, d_core, d_moved_paper, d_judge_moved, d_root_of_group, d__law_start, d__law_fill, d__law_take, d__law_alike, d__law_word, d__law_turned, d__law_reduced, d__law_inverse, d__law_core, d__law_rotations, d__law_is_moved, d__law_power, d_law]
def fa : List He.Fa := [.glo "is_word", .glo "root_of", .glo "turned_by", .glo "least_rotation", .glo "inverse_word", .glo "reduced", .glo "product", .glo "core", .glo "moved_paper", .glo "judge_moved", .glo "root_of_group", .glo "_law_start", .glo "_law_fill", .glo "_law_take", .glo "_law_alike", .glo "_law_word", .glo "_law_turned", .glo "_law_reduced", .glo "_law_inverse", .glo "_law_core", .glo "_law_rotations", .glo "_law_is_moved", .glo "_law_power", .glo "law", .str "SIGNS" "abcABC", .free "len", .free "list", .free "tuple", .free "min", .free "max", .free "int", .free "abs", .free "sum", .free "all", .free "any", .free "isinstance", .free "bool", .free "str", .free "range", .free "enumerate", .free "zip", .free "sorted", .free "repr"]
def loose : List Str := (["is_word", "root_of", "turned_by", "least_rotation", "SIGNS", "inverse_word", "reduced", "product", "core", "moved_paper", "judge_moved", "root_of_group", "_law_start", "_law_fill", "_law_take", "_law_alike", "_law_word", "_law_turned", "_law_reduced", "_law_inverse", "_law_core", "_law_rotations", "_law_is_moved", "_law_power"] : List Str)
def defs : List DS := [⟨d_is_word, (["value", "letters", "most"] : List Str), (["value", "letters", "most", "letter"] : List Str), f_is_word⟩, ⟨d_root_of, (["word"] : List Str), (["word", "size"] : List Str), f_root_of⟩, ⟨d_turned_by, (["word", "at"] : List Str), (["word", "at"] : List Str), f_turned_by⟩, ⟨d_least_rotation, (["word"] : List Str), (["word", "at"] : List Str), f_least_rotation⟩, ⟨d_inverse_word, (["word"] : List Str), (["word"] : List Str), f_inverse_word⟩, ⟨d_reduced, (["word"] : List Str), (["word", "found", "letter"] : List Str), f_reduced⟩, ⟨d_product, (["u", "v"] : List Str), (["u", "v"] : List Str), f_product⟩, ⟨d_core, (["word"] : List Str), (["word", "k"] : List Str), f_core⟩, ⟨d_moved_paper, (["u", "v"] : List Str), (["u", "v", "turned", "back", "first", "second", "by", "inner", "other", "goal"] : List Str), f_moved_paper⟩, ⟨d_judge_moved, (["u", "v", "value"] : List Str), (["u", "v", "value", "by", "one"] : List Str), f_judge_moved⟩, ⟨d_root_of_group, (["word"] : List Str), (["word", "by", "inner", "root", "times"] : List Str), f_root_of_group⟩, ⟨d__law_start, (["script"] : List Str), (["script", "cell"] : List Str), f__law_start⟩, ⟨d__law_fill, (["c"] : List Str), (["c", "number"] : List Str), f__law_fill⟩, ⟨d__law_take, (["c", "many"] : List Str), (["c", "many", "digit"] : List Str), f__law_take⟩, ⟨d__law_alike, (["value", "due"] : List Str), (["value", "due", "k"] : List Str), f__law_alike⟩, ⟨d__law_word, (["c", "most"] : List Str), (["c", "most", "k"] : List Str), f__law_word⟩, ⟨d__law_turned, (["letter"] : List Str), (["letter"] : List Str), f__law_turned⟩, ⟨d__law_reduced, (["word"] : List Str), (["word", "turn", "k"] : List Str), f__law_reduced⟩, ⟨d__law_inverse, (["word"] : List Str), (["word", "letter"] : List Str), f__law_inverse⟩, ⟨d__law_core, (["word"] : List Str), (["word", "turn", "by", "inner"] : List Str), f__law_core⟩, ⟨d__law_rotations, (["word"] : List Str), (["word", "k"] : List Str), f__law_rotations⟩, ⟨d__law_is_moved, (["u", "v", "value"] : List Str), (["u", "v", "value", "by", "first", "second", "word", "letter", "one"] : List Str), f__law_is_moved⟩, ⟨d__law_power, (["word", "many"] : List Str), (["word", "many"] : List Str), f__law_power⟩, ⟨d_law, (["script"] : List Str), (["script", "c", "u", "by", "kind", "v", "word", "told", "bent", "value", "times", "root", "first", "second", "ahead", "inner", "k"] : List Str), f_law⟩]
abbrev R : PySem.W.OpenRow := PySem.W.OpenLaw.row PySem.Challenge.rw_signworth_k15_words_that_cancel
abbrev hk : PySem.W.Hook := He.hookD 4 fa fn
def ob (s : PySem.W.SharedT) : He.AlD := He.obsDG 4 fa fn (HandSHeadRun.getT s)
theorem ob_eq (s : PySem.W.SharedT) : ob s = hk.obs s.abs := He.obsDG_eq (HandSHeadRun.getT_eq s)
theorem run (w : World) : HandSHeadRun.RunEq R (PySem.W.view R.prog [28]) hk ob 1000 loose w := by
  intro os
  kernel_rfl
theorem chk_all : (defs.all fun D => okD (fnsOf defs) glos D) = true := by decide +kernel
theorem prog_eq : progOf defs = prog := rfl
theorem bind_all : ∀ D ∈ defs, ∀ (kV doc pm : Value) (an : Option Addr) (cdv ct : Value) (us : List Value), us.length = D.ps.length → bindArgs (PySem.W.fnOf D.d.name D.d.qual D.d.params D.d.body D.d.scope .none kV doc pm an cdv ct) ⟨us, []⟩ = pure (D.ps.zip us) := by
  intro D hD
  simp only [defs, List.mem_cons, List.not_mem_nil, or_false] at hD
  rcases hD with rfl | rfl | rfl | rfl | rfl | rfl | rfl | rfl | rfl | rfl | rfl | rfl | rfl | rfl | rfl | rfl | rfl | rfl | rfl | rfl | rfl | rfl | rfl | rfl
  · exact fun kV doc pm an cdv ct us hl => match us, hl with | [_, _, _], _ => rfl
  · exact fun kV doc pm an cdv ct us hl => match us, hl with | [_], _ => rfl
  · exact fun kV doc pm an cdv ct us hl => match us, hl with | [_, _], _ => rfl
  · exact fun kV doc pm an cdv ct us hl => match us, hl with | [_], _ => rfl
  · exact fun kV doc pm an cdv ct us hl => match us, hl with | [_], _ => rfl
  · exact fun kV doc pm an cdv ct us hl => match us, hl with | [_], _ => rfl
  · exact fun kV doc pm an cdv ct us hl => match us, hl with | [_, _], _ => rfl
  · exact fun kV doc pm an cdv ct us hl => match us, hl with | [_], _ => rfl
  · exact fun kV doc pm an cdv ct us hl => match us, hl with | [_, _], _ => rfl
  · exact fun kV doc pm an cdv ct us hl => match us, hl with | [_, _, _], _ => rfl
  · exact fun kV doc pm an cdv ct us hl => match us, hl with | [_], _ => rfl
  · exact fun kV doc pm an cdv ct us hl => match us, hl with | [_], _ => rfl
  · exact fun kV doc pm an cdv ct us hl => match us, hl with | [_], _ => rfl
  · exact fun kV doc pm an cdv ct us hl => match us, hl with | [_, _], _ => rfl
  · exact fun kV doc pm an cdv ct us hl => match us, hl with | [_, _], _ => rfl
  · exact fun kV doc pm an cdv ct us hl => match us, hl with | [_, _], _ => rfl
  · exact fun kV doc pm an cdv ct us hl => match us, hl with | [_], _ => rfl
  · exact fun kV doc pm an cdv ct us hl => match us, hl with | [_], _ => rfl
  · exact fun kV doc pm an cdv ct us hl => match us, hl with | [_], _ => rfl
  · exact fun kV doc pm an cdv ct us hl => match us, hl with | [_], _ => rfl
  · exact fun kV doc pm an cdv ct us hl => match us, hl with | [_], _ => rfl
  · exact fun kV doc pm an cdv ct us hl => match us, hl with | [_, _, _], _ => rfl
  · exact fun kV doc pm an cdv ct us hl => match us, hl with | [_, _], _ => rfl
  · exact fun kV doc pm an cdv ct us hl => match us, hl with | [_], _ => rfl
theorem world {K : PySem.W.Frag} {mg : Str → Option Value} {h : Heap} (KX : K.In h) (c : He.SaysD fa fn K) (Gm : h.Ns mainGlobals mg) : World0 K mg defs glos := by
  refine ⟨fun D hD => ?_, bind_all, fun D hD => List.all_eq_true.mp chk_all D hD, fun j x p hj => ?_, fun x hx => ?_⟩
  · simp only [defs, List.mem_cons, List.not_mem_nil, or_false] at hD
    rcases hD with rfl | rfl | rfl | rfl | rfl | rfl | rfl | rfl | rfl | rfl | rfl | rfl | rfl | rfl | rfl | rfl | rfl | rfl | rfl | rfl | rfl | rfl | rfl | rfl
    · exact ⟨He.glo_ok KX Gm (c.fact 0), c.def_ 0⟩
    · exact ⟨He.glo_ok KX Gm (c.fact 1), c.def_ 1⟩
    · exact ⟨He.glo_ok KX Gm (c.fact 2), c.def_ 2⟩
    · exact ⟨He.glo_ok KX Gm (c.fact 3), c.def_ 3⟩
    · exact ⟨He.glo_ok KX Gm (c.fact 4), c.def_ 4⟩
    · exact ⟨He.glo_ok KX Gm (c.fact 5), c.def_ 5⟩
    · exact ⟨He.glo_ok KX Gm (c.fact 6), c.def_ 6⟩
    · exact ⟨He.glo_ok KX Gm (c.fact 7), c.def_ 7⟩
    · exact ⟨He.glo_ok KX Gm (c.fact 8), c.def_ 8⟩
    · exact ⟨He.glo_ok KX Gm (c.fact 9), c.def_ 9⟩
    · exact ⟨He.glo_ok KX Gm (c.fact 10), c.def_ 10⟩
    · exact ⟨He.glo_ok KX Gm (c.fact 11), c.def_ 11⟩
    · exact ⟨He.glo_ok KX Gm (c.fact 12), c.def_ 12⟩
    · exact ⟨He.glo_ok KX Gm (c.fact 13), c.def_ 13⟩
    · exact ⟨He.glo_ok KX Gm (c.fact 14), c.def_ 14⟩
    · exact ⟨He.glo_ok KX Gm (c.fact 15), c.def_ 15⟩
    · exact ⟨He.glo_ok KX Gm (c.fact 16), c.def_ 16⟩
    · exact ⟨He.glo_ok KX Gm (c.fact 17), c.def_ 17⟩
    · exact ⟨He.glo_ok KX Gm (c.fact 18), c.def_ 18⟩
    · exact ⟨He.glo_ok KX Gm (c.fact 19), c.def_ 19⟩
    · exact ⟨He.glo_ok KX Gm (c.fact 20), c.def_ 20⟩
    · exact ⟨He.glo_ok KX Gm (c.fact 21), c.def_ 21⟩
    · exact ⟨He.glo_ok KX Gm (c.fact 22), c.def_ 22⟩
    · exact ⟨He.glo_ok KX Gm (c.fact 23), c.def_ 23⟩
  · match j, hj with
    | 0, hj => cases hj; obtain ⟨t, e⟩ := He.str_ok KX Gm (c.fact 24); exact ⟨_, .str (sOf [97, 98, 99, 65, 66, 67]), e, ⟨_, congrArg (Value.str · t) (by decide +kernel)⟩, fun H => .str _ (by decide)⟩
    | _ + 1, hj => cases hj
  · simp only [bltNames, List.mem_cons, List.not_mem_nil, or_false] at hx
    rcases hx with rfl | rfl | rfl | rfl | rfl | rfl | rfl | rfl | rfl | rfl | rfl | rfl | rfl | rfl | rfl | rfl | rfl | rfl
    · exact He.free_ok KX Gm (c.fact 25)
    · exact He.free_ok KX Gm (c.fact 26)
    · exact He.free_ok KX Gm (c.fact 27)
    · exact He.free_ok KX Gm (c.fact 28)
    · exact He.free_ok KX Gm (c.fact 29)
    · exact He.free_ok KX Gm (c.fact 30)
    · exact He.free_ok KX Gm (c.fact 31)
    · exact He.free_ok KX Gm (c.fact 32)
    · exact He.free_ok KX Gm (c.fact 33)
    · exact He.free_ok KX Gm (c.fact 34)
    · exact He.free_ok KX Gm (c.fact 35)
    · exact He.free_ok KX Gm (c.fact 36)
    · exact He.free_ok KX Gm (c.fact 37)
    · exact He.free_ok KX Gm (c.fact 38)
    · exact He.free_ok KX Gm (c.fact 39)
    · exact He.free_ok KX Gm (c.fact 40)
    · exact He.free_ok KX Gm (c.fact 41)
    · exact He.free_ok KX Gm (c.fact 42)
open PySem PySem.W PySem.Calls PyProof.Rows
theorem holds_of (hl : ∀ ns : List Int, ns.length ≤ 63 → ∃ rs, callF prog G 200 23 [.imm (.lst (ns.map P.int))] = some (.imm (.bl true), rs)) : PySem.Challenge.rw_signworth_k15_words_that_cancel.Holds := by
  w_on; o_law
  refine HandSHeadRun.head_any (r := OpenLaw.row PySem.Challenge.rw_signworth_k15_words_that_cancel) (q := view (OpenLaw.row PySem.Challenge.rw_signworth_k15_words_that_cancel).prog [28]) (H := hk) (ob := ob) (M := 1000) (loose := loose) (d := HandSHeadRun.topDef (OpenLaw.row PySem.Challenge.rw_signworth_k15_words_that_cancel).prog 28) (kwd := []) ob_eq
    (by kernel_rfl) (fun s => by kernel_rfl) run (by kernel_rfl) (by kernel_rfl) (by kernel_rfl) (by rfl) (by first | assumption | decide +kernel) (by decide +kernel) ⟨rfl, rfl, rfl, rfl, rfl, by decide +kernel⟩ ?hw ?hc
  case hw => w_witness2
  case hc =>
    refine L2.walk_ofE (l := PySem.Challenge.rw_signworth_k15_words_that_cancel) (n := 63) (k := 200) (x := "script") (CX := L2.CX0) rfl (by decide) (by kernel_rfl) ⟨rfl, by decide, by decide⟩ ?F (fun _ _ _ _ z => z)
    intro w mg fa h Y Gm hmg0
    obtain ⟨K, KX, c⟩ := Y
    have hmg : mg ("law" : PySem.Str) = some (.ref fa) := by
      have e : (HandSHeadRun.topDef (OpenLaw.row PySem.Challenge.rw_signworth_k15_words_that_cancel).prog 28).name = ("law" : PySem.Str) := by kernel_rfl
      rw [← e]
      exact hmg0
    have W0 := world KX c Gm
    have hfa : fa = He.fAd K ("law", none) := by
      have := (W0.fns _ (List.mem_of_getElem? (show defs[23]? = some _ from rfl))).1
      have e2 : mg "law" = some (.ref (He.fAd K ("law", none))) := this
      rw [hmg] at e2
      cases e2
      rfl
    obtain ⟨_, fd, F⟩ := W0.fns _ (List.mem_of_getElem? (show defs[23]? = some _ from rfl))
    subst hfa
    refine ⟨K, fd, _, KX, fun s u => (fn_all W0 (PySem.Challenge.rw_signworth_k15_words_that_cancel).prog w h 0 23 _ fd rfl F).2.2.1 s [u] rfl, law_sp (prog := prog) (G := G) (k := 200) (j := 23) hl, fun base b1 b2 => ?_⟩
    exact (fn_all W0 (PySem.Challenge.rw_signworth_k15_words_that_cancel).prog w base 200 23 _ fd rfl F).2.2.2
end k15
end Sw
/-! Sx: the evaluator, step by step, by simp. -/
namespace Sw
section
variable {Φ : CallS} {G : List P} {e : En}
@[simp] theorem sx_nm (i : Nat) : evo Φ G (.nm i) e = (nmSem i e).bind fun o => some (o, e) := by simp only [evo]
@[simp] theorem sx_cst (p : P) : evo Φ G (.cst p) e = some (.tmp (.imm p), e) := by simp only [evo]
@[simp] theorem sx_glo (x : Nat) : evo Φ G (.glo x) e = (G[x]?).bind fun p => some (.tmp (.imm p), e) := by simp only [evo]
@[simp] theorem sx_mv (x : Nat) : evo Φ G (.mv x) e = mvSem x e := by simp only [evo]
@[simp] theorem sx_tup (es : List E) : evo Φ G (.tup es) e = (evos Φ G es e).bind fun r => (immOs r.1).bind fun ps => if ps.length ≤ line then some (.tmp (.imm (.tup ps)), r.2) else none := by simp only [evo]
@[simp] theorem sx_lst (es : List E) : evo Φ G (.lst es) e = (evos Φ G es e).bind fun r => (immOs r.1).bind fun ps => if ps.length ≤ line then some (.tmp (.lst ps), r.2) else none := by simp only [evo]
@[simp] theorem sx_op (o : Op) (es : List E) : evo Φ G (.op o es) e = (evos Φ G es e).bind fun r => (resvs r.2 r.1).bind fun ds => (opSem o ds).bind fun d => some (.tmp d, r.2) := by simp only [evo]
@[simp] theorem sx_mth (o : Op) (a : E) (es : List E) : evo Φ G (.mth o a es) e = (evo Φ G a e).bind fun x => (resv x.2 x.1).bind fun d0 => if rcvOk o d0 then (evos Φ G es x.2).bind fun r => (resvs r.2 (x.1 :: r.1)).bind fun ds => (opSem o ds).bind fun d => some (.tmp d, r.2) else none := by simp only [evo]
@[simp] theorem sx_chain (o1 o2 : Op) (a b c : E) : evo Φ G (.chain o1 o2 a b c) e = (evo Φ G a e).bind fun x => (evo Φ G b x.2).bind fun y => (resvs y.2 [x.1, y.1]).bind fun ds => (opSem o1 ds).bind fun r =>
      (match r with
      | .imm (.bl true) => (evo Φ G c y.2).bind fun z => (resvs z.2 [y.1, z.1]).bind fun ds => (opSem o2 ds).bind fun d => some (.tmp d, z.2)
      | .imm (.bl false) => some (.tmp (.imm (.bl false)), y.2)
      | _ => none) := by simp only [evo] <;> rfl
@[simp] theorem sx_and (es : List E) : evo Φ G (.and es) e = evand Φ G es e := by simp only [evo]
@[simp] theorem sx_or (es : List E) : evo Φ G (.or es) e = evor Φ G es e := by simp only [evo]
@[simp] theorem sx_not (a : E) : evo Φ G (.not a) e = (evo Φ G a e).bind fun x => (resv x.2 x.1).bind fun d => (truth d).bind fun b => some (.tmp (.imm (.bl (!b))), x.2) := by simp only [evo]
@[simp] theorem sx_ife (t a b : E) : evo Φ G (.ife t a b) e = (evo Φ G t e).bind fun x => (resv x.2 x.1).bind fun d => (truth d).bind fun k => if k then evo Φ G a x.2 else evo Φ G b x.2 := by simp only [evo]
@[simp] theorem sx_slc (a : E) (lo hi : Option E) : evo Φ G (.slc a lo hi) e = (evo Φ G a e).bind fun x => (evopt Φ G lo x.2).bind fun l => (evopt Φ G hi l.2).bind fun h => (resv h.2 x.1).bind fun d => (slcSem d l.1 h.1).bind fun r => some (.tmp r, h.2) := by simp only [evo]
@[simp] theorem sx_mut (m : MOp) (i : Nat) (es : List E) : evo Φ G (.mut m i es) e = (getE e i).bind fun d0 => (listOf d0).bind fun _ => (evos Φ G es e).bind fun r => (mutDo m i r.1 r.2).bind fun q => some (.tmp (.imm q.1), q.2) := by simp only [evo]
@[simp] theorem sx_call (f : Nat) (es : List E) : evo Φ G (.call f es) e = (evos Φ G es e).bind fun r => (resvs r.2 r.1).bind fun ds => (Φ f ds).bind fun q => (back r.1 ds q.2 r.2).bind fun e2 => some (.tmp q.1, e2) := by simp only [evo]
@[simp] theorem sx_frz (a : E) : evo Φ G (.frz a) e = (evo Φ G a e).bind fun x => (frzSem x.1 x.2).bind fun q => some (.tmp (.imm q.1), q.2) := by simp only [evo]
def stepCc (Φ : CallS) (G : List P) (own : List Nat) (t : Pat) (tests : List E) (elt : E) (os : List Opd) (e1 : En) (p : P) (acc : List P) (e2 : En) : Option (List P × En) :=
  (bindP t p e2).bind fun e3 => (evtests Φ G tests e3).bind fun b =>
    if b.1 then (evo Φ G elt b.2).bind fun x => (immO x.1).bind fun q => if lockOk os e1 x.2 ∧ acc.length < line then some (acc ++ [q], wipeE x.2 own) else none
    else if lockOk os e1 b.2 then some (acc, wipeE b.2 own) else none
@[simp] theorem sx_cmp (own : List Nat) (t : Pat) (k : IK) (as tests : List E) (elt : E) : evo Φ G (.cmp own t k as tests elt) e = (evos Φ G as e).bind fun r => (resvs r.2 r.1).bind fun ds => (items k ds).bind fun ps =>
      if freeOf r.1 own then (compL (stepCc Φ G own t tests elt r.1 r.2) ps [] (wipeE r.2 own)).bind fun z => some (.tmp (.lst z.1), putBack z.2 r.2 own) else none := by simp only [evo]; rfl
@[simp] theorem sx_nil : evos Φ G [] e = some ([], e) := by simp only [evos]
@[simp] theorem sx_cons (a : E) (as : List E) : evos Φ G (a :: as) e = (evo Φ G a e).bind fun x => (evos Φ G as x.2).bind fun xs => some (x.1 :: xs.1, xs.2) := by simp only [evos]
@[simp] theorem sx_on : evopt Φ G none e = some (none, e) := by simp only [evopt]
@[simp] theorem sx_os (a : E) : evopt Φ G (some a) e = (evo Φ G a e).bind fun x => (intO x.1).bind fun i => some (some i, x.2) := by simp only [evopt]
@[simp] theorem sx_and1 (a : E) : evand Φ G [a] e = evo Φ G a e := by simp only [evand]
@[simp] theorem sx_and2 (a b : E) (as : List E) : evand Φ G (a :: b :: as) e = (evo Φ G a e).bind fun x => (resv x.2 x.1).bind fun d => (truth d).bind fun k => if k then evand Φ G (b :: as) x.2 else some x := by rw [evand]
@[simp] theorem sx_or1 (a : E) : evor Φ G [a] e = evo Φ G a e := by simp only [evor]
@[simp] theorem sx_or2 (a b : E) (as : List E) : evor Φ G (a :: b :: as) e = (evo Φ G a e).bind fun x => (resv x.2 x.1).bind fun d => (truth d).bind fun k => if k then some x else evor Φ G (b :: as) x.2 := by rw [evor]
@[simp] theorem sx_t0 : evtests Φ G [] e = some (true, e) := by simp only [evtests]
@[simp] theorem sx_t1 (a : E) : evtests Φ G [a] e = (evo Φ G a e).bind fun x => (resv x.2 x.1).bind fun d => (truth d).bind fun b => some (b, x.2) := by simp only [evtests]
/-! statements -/
@[simp] theorem sx_asg (t : Pat) (a : E) : ex Φ G (.asg t a) e = (evo Φ G a e).bind fun x => (asgD t x.1 x.2).bind fun e' => some (.nx, e') := by simp only [ex]
@[simp] theorem sx_par (is : List Nat) (es : List E) : ex Φ G (.par is es) e = (evos Φ G es e).bind fun r => (setAll is r.1 r.2).bind fun e' => some (.nx, e') := by simp only [ex]
@[simp] theorem sx_aug (i : Nat) (o : Op) (a : E) : ex Φ G (.aug i o a) e = (nmSem i e).bind fun u => (evo Φ G a e).bind fun y => (resvs y.2 [u, y.1]).bind fun ds => (match ds with
      | [du, dy] => augSem o du dy
      | _ => none).bind fun d => some (.nx, y.2.set i (some d)) := by simp only [ex] <;> rfl
@[simp] theorem sx_sto (i : Nat) (k a : E) : ex Φ G (.sto i k a) e = (evo Φ G a e).bind fun x => (immO x.1).bind fun p => (getE x.2 i).bind fun _ => (evo Φ G k x.2).bind fun y => (immO y.1).bind fun q => (stoSem i q p y.2).bind fun e' => some (.nx, e') := by simp only [ex]
@[simp] theorem sx_ex (a : E) : ex Φ G (.ex a) e = (evo Φ G a e).bind fun x => some (.nx, x.2) := by simp only [ex]
@[simp] theorem sx_ret (a : E) : ex Φ G (.ret a) e = (evo Φ G a e).bind fun x => retD x.1 x.2 := by simp only [ex]
@[simp] theorem sx_ret0 : ex Φ G .ret0 e = some (.rt (.imm .non), e) := by simp only [ex]
@[simp] theorem sx_ifs (t : E) (a b : List T) : ex Φ G (.ifs t a b) e = (evo Φ G t e).bind fun x => (resv x.2 x.1).bind fun d => (truth d).bind fun k => if k then exs Φ G a x.2 else exs Φ G b x.2 := by simp only [ex]
def stepFf (Φ : CallS) (G : List P) (t : Pat) (body : List T) (p : P) (e2 : En) : Option (Fl × En) := (bindP t p e2).bind fun e3 => exs Φ G body e3
@[simp] theorem sx_for (t : Pat) (k : IK) (as : List E) (body : List T) : ex Φ G (.fors t k as body) e = (evos Φ G as e).bind fun r => (resvs r.2 r.1).bind fun ds => (items k ds).bind fun ps =>
      if freeOf r.1 (asgP t ++ asgTs body) then forL (stepFf Φ G t body) (fun e' => lockOk r.1 r.2 e') ps r.2 else none := by simp only [ex]; rfl
def stepWw (Φ : CallS) (G : List P) (t : E) (body : List T) (e : En) : Option (Bool × Fl × En) := (evo Φ G t e).bind fun x => (resv x.2 x.1).bind fun d => (truth d).bind fun k => if k then (exs Φ G body x.2).bind fun r => some (true, r.1, r.2) else some (false, .nx, x.2)
@[simp] theorem sx_whl (n : Nat) (t : E) (body : List T) : ex Φ G (.whl n t body) e = whlL (stepWw Φ G t body) n e := by simp only [ex]; rfl
@[simp] theorem sx_brk : ex Φ G .brk e = some (.bk, e) := by simp only [ex]
@[simp] theorem sx_cont : ex Φ G .cont e = some (.ct, e) := by simp only [ex]
@[simp] theorem sx_pass : ex Φ G .pass e = some (.nx, e) := by simp only [ex]
@[simp] theorem sx_snil : exs Φ G [] e = some (.nx, e) := by simp only [exs]
@[simp] theorem sx_scons (a : T) (as : List T) : exs Φ G (a :: as) e = (ex Φ G a e).bind fun r => match r.1 with
      | .nx => exs Φ G as r.2
      | f => some (f, r.2) := by simp only [exs] <;> rfl
end
/-! the pieces -/
@[simp] theorem sx_getE0 (x : Option D) (e : En) : getE (x :: e) 0 = x := by simp [getE]
@[simp] theorem sx_getES (x : Option D) (e : En) (i : Nat) : getE (x :: e) (i + 1) = getE e i := by simp [getE]
@[simp] theorem sx_nmI {i : Nat} {e : En} {p : P} (h : getE e i = some (.imm p)) : nmSem i e = some (.tmp (.imm p)) := by unfold nmSem; rw [h]
@[simp] theorem sx_nmL {i : Nat} {e : En} {p : List P} (h : getE e i = some (.lst p)) : nmSem i e = some (.slot i) := by unfold nmSem; rw [h]
@[simp] theorem sx_mvI {i : Nat} {e : En} {p : P} (h : getE e i = some (.imm p)) : mvSem i e = some (.tmp (.imm p), e) := by unfold mvSem; rw [h]
@[simp] theorem sx_mvL {i : Nat} {e : En} {p : List P} (h : getE e i = some (.lst p)) : mvSem i e = some (.tmp (.lst p), e.set i none) := by unfold mvSem; rw [h]
@[simp] theorem sx_rtmp (e : En) (d : D) : resv e (.tmp d) = some d := rfl
@[simp] theorem sx_rslot (e : En) (i : Nat) : resv e (.slot i) = getE e i := rfl
@[simp] theorem sx_rs0 (e : En) : resvs e [] = some [] := rfl
@[simp] theorem sx_rs1 (e : En) (o : Opd) (os : List Opd) : resvs e (o :: os) = (resv e o).bind fun d => (resvs e os).bind fun ds => some (d :: ds) := rfl
@[simp] theorem sx_im0 : immOs [] = some [] := rfl
@[simp] theorem sx_im1 (o : Opd) (os : List Opd) : immOs (o :: os) = (immO o).bind fun p => (immOs os).bind fun ps => some (p :: ps) := rfl
@[simp] theorem sx_imO (p : P) : immO (.tmp (.imm p)) = some p := rfl
@[simp] theorem sx_intO (i : Int) : intO (.tmp (.imm (.int i))) = some i := rfl
@[simp] theorem sx_fz1 (p : P) (e : En) : frzSem (.tmp (.imm p)) e = some (p, e) := rfl
@[simp] theorem sx_fz2 (p : List P) (e : En) : frzSem (.tmp (.lst p)) e = some (.lst p, e) := rfl
@[simp] theorem sx_fz3 {i : Nat} {e : En} {p : P} (h : getE e i = some (.imm p)) : frzSem (.slot i) e = some (p, e) := by unfold frzSem; simp only [h]
@[simp] theorem sx_fz4 {i : Nat} {e : En} {p : List P} (h : getE e i = some (.lst p)) : frzSem (.slot i) e = some (.lst p, e.set i (some (.imm (.lst p)))) := by unfold frzSem; simp only [h]
@[simp] theorem sx_as1 (t : Pat) (p : P) (e : En) : asgD t (.tmp (.imm p)) e = bindP t p e := rfl
@[simp] theorem sx_as2 (i : Nat) (p : List P) (e : En) : asgD (.nm i) (.tmp (.lst p)) e = some (e.set i (some (.lst p))) := rfl
@[simp] theorem sx_bp1 (i : Nat) (p : P) (e : En) : bindP (.nm i) p e = some (e.set i (some (.imm p))) := by simp only [bindP]
@[simp] theorem sx_bp2 (ts : List Pat) (ps : List P) (e : En) : bindP (.tp ts) (.tup ps) e = bindPs ts ps e := by simp only [bindP]
@[simp] theorem sx_bp3 (ts : List Pat) (ps : List P) (e : En) : bindP (.tp ts) (.lst ps) e = bindPs ts ps e := by simp only [bindP]
@[simp] theorem sx_bps0 (e : En) : bindPs [] [] e = some e := by simp only [bindPs]
@[simp] theorem sx_bps1 (t : Pat) (ts : List Pat) (p : P) (ps : List P) (e : En) : bindPs (t :: ts) (p :: ps) e = (bindP t p e).bind fun e' => bindPs ts ps e' := by simp only [bindPs]
@[simp] theorem sx_rd1 (d : D) (e : En) : retD (.tmp d) e = some (.rt d, e) := rfl
@[simp] theorem sx_rd2 (i : Nat) (e : En) : retD (.slot i) e = (getE e i).bind fun d => some (.rt d, e.set i none) := rfl
@[simp] theorem sx_sa0 (e : En) : setAll [] [] e = some e := rfl
@[simp] theorem sx_sa1 (i : Nat) (is : List Nat) (d : D) (os : List Opd) (e : En) : setAll (i :: is) (.tmp d :: os) e = setAll is os (e.set i (some d)) := rfl
@[simp] theorem sx_bk0 (e : En) : back [] [] [] e = some e := rfl
@[simp] theorem sx_bk1 (d d' r : D) (os : List Opd) (ds rs : List D) (e : En) : back (.tmp d' :: os) (d :: ds) (r :: rs) e = back os ds rs e := rfl
@[simp] theorem sx_bk2 (i : Nat) (p : P) (r : D) (os : List Opd) (ds rs : List D) (e : En) : back (.slot i :: os) (.imm p :: ds) (r :: rs) e = back os ds rs e := rfl
@[simp] theorem sx_bk3 (i : Nat) (p : List P) (r : D) (os : List Opd) (ds rs : List D) (e : En) : back (.slot i :: os) (.lst p :: ds) (r :: rs) e = if noSlot os i then (back os ds rs (e.set i none)).bind fun e' => some (e'.set i (some r)) else none := rfl
@[simp] theorem sx_ns0 (i : Nat) : noSlot [] i = true := rfl
@[simp] theorem sx_ns1 (i : Nat) (d : D) (os : List Opd) : noSlot (.tmp d :: os) i = noSlot os i := by simp [noSlot]
@[simp] theorem sx_ns2 (i j : Nat) (os : List Opd) : noSlot (.slot j :: os) i = ((j != i) && noSlot os i) := by simp [noSlot]
@[simp] theorem sx_fr0 (l : List Nat) : freeOf [] l = true := rfl
@[simp] theorem sx_fr1 (l : List Nat) (d : D) (os : List Opd) : freeOf (.tmp d :: os) l = freeOf os l := by simp [freeOf]
@[simp] theorem sx_fr2 (l : List Nat) (j : Nat) (os : List Opd) : freeOf (.slot j :: os) l = (!l.contains j && freeOf os l) := by simp [freeOf]
@[simp] theorem sx_lk0 (e e' : En) : lockOk [] e e' = true := rfl
@[simp] theorem sx_lk1 (e e' : En) (d : D) (os : List Opd) : lockOk (.tmp d :: os) e e' = lockOk os e e' := by simp [lockOk]
@[simp] theorem sx_lk2 (e e' : En) (j : Nat) (os : List Opd) : lockOk (.slot j :: os) e e' = (decide (getE e' j = getE e j) && lockOk os e e') := by simp [lockOk]
@[simp] theorem sx_agP1 (i : Nat) : asgP (.nm i) = [i] := by simp only [asgP]
@[simp] theorem sx_agP2 (ts : List Pat) : asgP (.tp ts) = asgPs ts := by simp only [asgP]
@[simp] theorem sx_agPs0 : asgPs [] = [] := by simp only [asgPs]
@[simp] theorem sx_agPs1 (t : Pat) (ts : List Pat) : asgPs (t :: ts) = asgP t ++ asgPs ts := by simp only [asgPs]
@[simp] theorem sx_mutDo {m : MOp} {i : Nat} {os : List Opd} {e : En} {xs : List P} (h : getE e i = some (.lst xs)) : mutDo m i os e = (resvs e os).bind fun ds => if noSlot os i then (mutSem m xs ds).bind fun r => some (r.2, e.set i (some (.lst r.1))) else none := by
  unfold mutDo
  simp only [h]
@[simp] theorem sx_sto' {i : Nat} {j : Int} {p : P} {e : En} {xs : List P} (h : getE e i = some (.lst xs)) : stoSem i (.int j) p e = (ixP xs.length j).bind fun n => some (e.set i (some (.lst (xs.set n p)))) := by
  unfold stoSem
  simp only [h]
@[simp] theorem sx_wipe0 (e : En) : wipeE e [] = e := rfl
@[simp] theorem sx_wipe1 (e : En) (i : Nat) (is : List Nat) : wipeE e (i :: is) = (wipeE e is).set i none := rfl
@[simp] theorem sx_put0 (e e0 : En) : putBack e e0 [] = e := rfl
@[simp] theorem sx_put1 (e e0 : En) (i : Nat) (is : List Nat) : putBack e e0 (i :: is) = putBack (e.set i (keepImm (getE e0 i))) e0 is := rfl
@[simp] theorem sx_keep1 (p : P) : keepImm (some (.imm p)) = some (.imm p) := rfl
@[simp] theorem sx_keep2 : keepImm none = none := rfl
@[simp] theorem sx_keep3 (p : List P) : keepImm (some (.lst p)) = none := rfl
/-! ### weakest preconditions -/
def wp {α : Type} (x : Option α) (Q : α → Prop) : Prop := ∃ a, x = some a ∧ Q a
section
variable {α β : Type} {Q : α → Prop}
@[simp] theorem wp_some (a : α) : wp (some a) Q ↔ Q a := ⟨fun ⟨_, e, q⟩ => by cases e; exact q, fun q => ⟨a, rfl, q⟩⟩
@[simp] theorem wp_none : wp (none : Option α) Q ↔ False := ⟨fun ⟨_, e, _⟩ => (nomatch e), False.elim⟩
@[simp] theorem wp_bind (x : Option β) (f : β → Option α) : wp (x.bind f) Q ↔ wp x fun a => wp (f a) Q := by
  cases x with
  | none => simp [wp]
  | some b => simp
theorem wp_mono {x : Option α} {Q' : α → Prop} (h : wp x Q) (hq : ∀ a, Q a → Q' a) : wp x Q' := let ⟨a, e, q⟩ := h; ⟨a, e, hq a q⟩
theorem wp_eq {x : Option α} {a : α} (h : x = some a) (q : Q a) : wp x Q := ⟨a, h, q⟩
end
theorem wp_for {step : P → En → Option (Fl × En)} {ok : En → Bool} {Q : Fl × En → Prop} (I : Nat → En → Prop) {ps : List P} {e : En} (h0 : I 0 e)
    (hs : ∀ i p e, ps[i]? = some p → I i e → wp (step p e) fun r => match r.1 with
      | .nx => ok r.2 = true ∧ I (i + 1) r.2
      | .ct => ok r.2 = true ∧ I (i + 1) r.2
      | .bk => Q (.nx, r.2)
      | .rt d => Q (.rt d, r.2))
    (hd : ∀ e, I ps.length e → Q (.nx, e)) : wp (forL step ok ps e) Q := by
  have key : ∀ (qs : List P) (i : Nat) (e : En), ps.drop i = qs → I i e → i ≤ ps.length → wp (forL step ok qs e) Q := by
    intro qs
    induction qs with
    | nil =>
      intro i e hq hi hl
      have : i = ps.length := by
        have := congrArg List.length hq
        rw [List.length_drop, List.length_nil] at this
        omega
      subst this
      unfold forL
      exact (wp_some _).mpr (hd e hi)
    | cons p qs ih =>
      intro i e hq hi hl
      have hp : ps[i]? = some p := by
        have := congrArg (fun l : List P => l[0]?) hq
        simpa using this
      have hlt : i < ps.length := (List.getElem?_eq_some_iff.mp hp).1
      have hq' : ps.drop (i + 1) = qs := by
        have := congrArg List.tail hq
        simpa using this
      unfold forL
      rw [wp_bind]
      refine wp_mono (hs i p e hp hi) fun r hr => ?_
      obtain ⟨fl, e'⟩ := r
      cases fl with
      | nx => simp only at hr ⊢; rw [if_pos hr.1]; exact ih (i + 1) e' hq' hr.2 hlt
      | ct => simp only at hr ⊢; rw [if_pos hr.1]; exact ih (i + 1) e' hq' hr.2 hlt
      | bk => exact (wp_some _).mpr hr
      | rt d => exact (wp_some _).mpr hr
  exact key ps 0 e (List.drop_zero ..) h0 (Nat.zero_le _)
theorem wp_comp {step : P → List P → En → Option (List P × En)} {Q : List P × En → Prop} (I : Nat → List P → En → Prop) {ps : List P} {e : En} (h0 : I 0 [] e)
    (hs : ∀ i p acc e, ps[i]? = some p → I i acc e → wp (step p acc e) fun r => I (i + 1) r.1 r.2) (hd : ∀ acc e, I ps.length acc e → Q (acc, e)) : wp (compL step ps [] e) Q := by
  have key : ∀ (qs : List P) (i : Nat) (acc : List P) (e : En), ps.drop i = qs → I i acc e → i ≤ ps.length → wp (compL step qs acc e) Q := by
    intro qs
    induction qs with
    | nil =>
      intro i acc e hq hi hl
      have : i = ps.length := by
        have := congrArg List.length hq
        rw [List.length_drop, List.length_nil] at this
        omega
      subst this
      unfold compL
      exact (wp_some _).mpr (hd acc e hi)
    | cons p qs ih =>
      intro i acc e hq hi hl
      have hp : ps[i]? = some p := by
        have := congrArg (fun l : List P => l[0]?) hq
        simpa using this
      have hlt : i < ps.length := (List.getElem?_eq_some_iff.mp hp).1
      have hq' : ps.drop (i + 1) = qs := by
        have := congrArg List.tail hq
        simpa using this
      unfold compL
      rw [wp_bind]
      exact wp_mono (hs i p acc e hp hi) fun r hr => ih (i + 1) r.1 r.2 hq' hr hlt
  exact key ps 0 [] e (List.drop_zero ..) h0 (Nat.zero_le _)
theorem wp_whl {step : En → Option (Bool × Fl × En)} {Q : Fl × En → Prop} (I : Nat → En → Prop) {n : Nat} {e : En} {m : Nat} (h0 : I m e) (hm : m < n)
    (hs : ∀ m e, I m e → wp (step e) fun r => if r.1 = true then (match r.2.1 with
      | .nx => ∃ m', m' < m ∧ I m' r.2.2
      | .ct => ∃ m', m' < m ∧ I m' r.2.2
      | .bk => Q (.nx, r.2.2)
      | .rt d => Q (.rt d, r.2.2)) else Q (.nx, r.2.2)) : wp (whlL step n e) Q := by
  induction n generalizing m e with
  | zero => omega
  | succ n ih =>
    unfold whlL
    rw [wp_bind]
    refine wp_mono (hs m e h0) fun r hr => ?_
    obtain ⟨b, fl, e'⟩ := r
    cases b with
    | false => simpa using hr
    | true =>
      simp only [if_true] at hr ⊢
      cases fl with
      | nx => obtain ⟨m', h1, h2⟩ := hr; exact ih h2 (by omega)
      | ct => obtain ⟨m', h1, h2⟩ := hr; exact ih h2 (by omega)
      | bk => exact (wp_some _).mpr hr
      | rt d => exact (wp_some _).mpr hr
/-- a call, by its body -/
theorem call_wp {prog : List Fn} {G : List P} {k j : Nat} {ds : List D} {fn : Fn} {Q : D × List D → Prop} (h1 : prog[j]? = some fn) (h2 : ds.length = fn.np)
    (h : wp (exs (callF prog G k) G fn.body (ds.map some ++ List.replicate (fn.n - fn.np) none)) fun r => match r.1 with
      | .nx => wp (outs (asgTs fn.body) r.2 ds 0) fun rs => Q (.imm .non, rs)
      | .rt d => wp (outs (asgTs fn.body) r.2 ds 0) fun rs => Q (d, rs)
      | _ => False) : wp (callF prog G (k + 1) j ds) Q := by
  unfold callF
  rw [h1]
  simp only [Option.bind_some]
  rw [if_pos h2, wp_bind]
  refine wp_mono h fun r hr => ?_
  obtain ⟨fl, e'⟩ := r
  cases fl with
  | nx => rw [wp_bind]; exact wp_mono hr fun rs q => (wp_some _).mpr q
  | rt d => rw [wp_bind]; exact wp_mono hr fun rs q => (wp_some _).mpr q
  | bk => exact hr.elim
  | ct => exact hr.elim
@[simp] theorem sx_out0 (asg : List Nat) (e : En) (i : Nat) : outs asg e [] i = some [] := by simp only [outs]
@[simp] theorem sx_out1 (asg : List Nat) (e : En) (p : P) (ds : List D) (i : Nat) : outs asg e (.imm p :: ds) i = (outs asg e ds (i + 1)).bind fun rs => some (.imm p :: rs) := by simp only [outs, Option.bind_some]
@[simp] theorem sx_out2 (asg : List Nat) (e : En) (p : List P) (ds : List D) (i : Nat) : outs asg e (.lst p :: ds) i = (if asg.contains i then none else getE e i).bind fun r => (outs asg e ds (i + 1)).bind fun rs => some (r :: rs) := by simp only [outs]
end Sw
/-! Sy: the operators, by their kinds. -/
namespace Sw
section
variable {e : En} {a b : Int} {s t : List Nat} {ps qs : List P} {p q : P} {x : D}
theorem le_lineN {n : Nat} (h : n ≤ 100000) : n ≤ line := by show n ≤ 16777216; omega
theorem lt_lineN {n : Nat} (h : n ≤ 100000) : n < line := by show n < 16777216; omega
@[simp] theorem so_add : opSem .add [.imm (.int a), .imm (.int b)] = some (.imm (.int (a + b))) := rfl
theorem so_adds (h : s.length + t.length ≤ line) : opSem .add [.imm (.str s), .imm (.str t)] = some (.imm (.str (s ++ t))) := by simp only [opSem, opAdd, h, if_true]
theorem so_addt (h : ps.length + qs.length ≤ line) : opSem .add [.imm (.tup ps), .imm (.tup qs)] = some (.imm (.tup (ps ++ qs))) := by simp only [opSem, opAdd, h, if_true]
theorem so_addl (h : ps.length + qs.length ≤ line) : opSem .add [.lst ps, .lst qs] = some (.lst (ps ++ qs)) := by simp only [opSem, opAdd, h, if_true]
@[simp] theorem so_sub : opSem .sub [.imm (.int a), .imm (.int b)] = some (.imm (.int (a - b))) := rfl
theorem so_mul (h : mulOk a b = true) : opSem .mul [.imm (.int a), .imm (.int b)] = some (.imm (.int (a * b))) := by simp only [opSem, opMul, h, if_true]; rfl
@[simp] theorem so_neg : opSem .neg [.imm (.int a)] = some (.imm (.int (-a))) := rfl
theorem so_fdiv (h : b ≠ 0 ∧ b.natAbs < 1073741824) : opSem .fdiv [.imm (.int a), .imm (.int b)] = some (.imm (.int (a.fdiv b))) := by simp only [opSem, int2]; rw [if_pos h]; rfl
theorem so_mod (h : b ≠ 0) : opSem .mod [.imm (.int a), .imm (.int b)] = some (.imm (.int (a.fmod b))) := by simp only [opSem, int2]; rw [if_pos h]; rfl
@[simp] theorem so_lt : opSem .lt [.imm (.int a), .imm (.int b)] = some (.imm (.bl (decide (a < b)))) := rfl
@[simp] theorem so_le : opSem .le [.imm (.int a), .imm (.int b)] = some (.imm (.bl (decide (a ≤ b)))) := rfl
@[simp] theorem so_gt : opSem .gt [.imm (.int a), .imm (.int b)] = some (.imm (.bl (decide (b < a)))) := rfl
@[simp] theorem so_ge : opSem .ge [.imm (.int a), .imm (.int b)] = some (.imm (.bl (decide (b ≤ a)))) := rfl
@[simp] theorem so_isN : opSem .isN [x] = some (.imm (.bl (decide (x = .imm .non)))) := rfl
@[simp] theorem so_notN : opSem .notN [x] = some (.imm (.bl (!decide (x = .imm .non)))) := rfl
theorem eqv_int : peq (.int a) (.int b) = decide (a = b) := by simp only [peq]; by_cases h : a = b <;> simp [h]
theorem eqv_str : peq (.str s) (.str t) = decide (s = t) := by simp only [peq]; by_cases h : s = t <;> simp [h]
theorem cmp_int : cmpEq (.imm (.int a)) (.imm (.int b)) = some (decide (a = b)) := by
  unfold cmpEq
  rw [if_pos (by simp [rd, depth]), rd, rd, eqv_int]
theorem cmp_str : cmpEq (.imm (.str s)) (.imm (.str t)) = some (decide (s = t)) := by
  unfold cmpEq
  rw [if_pos (by simp [rd, depth]), rd, rd, eqv_str]
@[simp] theorem so_eqI : opSem .eq [.imm (.int a), .imm (.int b)] = some (.imm (.bl (decide (a = b)))) := by simp only [opSem, cmp_int]; rfl
@[simp] theorem so_neI : opSem .ne [.imm (.int a), .imm (.int b)] = some (.imm (.bl (!decide (a = b)))) := by simp only [opSem, cmp_int]; rfl
@[simp] theorem so_eqS : opSem .eq [.imm (.str s), .imm (.str t)] = some (.imm (.bl (decide (s = t)))) := by simp only [opSem, cmp_str]; rfl
@[simp] theorem so_neS : opSem .ne [.imm (.str s), .imm (.str t)] = some (.imm (.bl (!decide (s = t)))) := by simp only [opSem, cmp_str]; rfl
theorem so_inS : opSem .isin [.imm (.str s), .imm (.str t)] = some (.imm (.bl (findAt s t 0).isSome)) := rfl
theorem so_ninS : opSem .notin [.imm (.str s), .imm (.str t)] = some (.imm (.bl (!(findAt s t 0).isSome))) := rfl
theorem so_idxS (h : s.length ≤ line) : opSem .idx [.imm (.str s), .imm (.int a)] = (atP s a).bind fun c => some (.imm (.str [c])) := by simp only [opSem, opIdx, h, if_true]
@[simp] theorem so_idxT : opSem .idx [.imm (.tup ps), .imm (.int a)] = (atP ps a).bind fun c => some (.imm c) := rfl
@[simp] theorem so_idxF : opSem .idx [.imm (.lst ps), .imm (.int a)] = (atP ps a).bind fun c => some (.imm c) := rfl
@[simp] theorem so_idxL : opSem .idx [.lst ps, .imm (.int a)] = (atP ps a).bind fun c => some (.imm c) := rfl
theorem so_lenS (h : s.length ≤ line) : opSem .len [.imm (.str s)] = some (.imm (.int s.length)) := by simp only [opSem, opLen, h, if_true]; rfl
@[simp] theorem so_lenT : opSem .len [.imm (.tup ps)] = some (.imm (.int ps.length)) := rfl
@[simp] theorem so_lenF : opSem .len [.imm (.lst ps)] = some (.imm (.int ps.length)) := rfl
@[simp] theorem so_lenL : opSem .len [.lst ps] = some (.imm (.int ps.length)) := rfl
@[simp] theorem so_isi (ts : List Ty) : opSem (.isi ts) [x] = some (.imm (.bl (ts.any (isTy (rd x))))) := rfl
@[simp] theorem so_min : opSem .min2 [.imm (.int a), .imm (.int b)] = some (.imm (.int (if b < a then b else a))) := rfl
@[simp] theorem so_max : opSem .max2 [.imm (.int a), .imm (.int b)] = some (.imm (.int (if b > a then b else a))) := rfl
@[simp] theorem so_int : opSem .int [.imm (.int a)] = some (.imm (.int a)) := rfl
@[simp] theorem so_intB (c : Bool) : opSem .int [.imm (.bl c)] = some (.imm (.int (bI c))) := rfl
theorem so_tupL (h : ps.length ≤ line) : opSem .tuple [.lst ps] = some (.imm (.tup ps)) := by simp only [opSem, opTuple, elems, Option.bind_some, h, if_true]
theorem so_tupT (h : ps.length ≤ line) : opSem .tuple [.imm (.tup ps)] = some (.imm (.tup ps)) := by simp only [opSem, opTuple, elems, Option.bind_some, h, if_true]
theorem so_tupF (h : ps.length ≤ line) : opSem .tuple [.imm (.lst ps)] = some (.imm (.tup ps)) := by simp only [opSem, opTuple, elems, Option.bind_some, h, if_true]
theorem so_lisT (h : ps.length ≤ line) : opSem .list [.imm (.tup ps)] = some (.lst ps) := by simp only [opSem, opList, elems, Option.bind_some, h, if_true]
theorem so_lisS (h : s.length ≤ line) : opSem .list [.imm (.str s)] = some (.lst (s.map fun c => .str [c])) := by simp only [opSem, opList, elems, Option.bind_some, List.length_map, h, if_true]
@[simp] theorem so_revT : opSem .rev [.imm (.tup ps)] = some (.imm (.tup ps.reverse)) := rfl
theorem so_slcS {l h : Option Int} (c : s.length ≤ line) : slcSem (.imm (.str s)) l h = some (.imm (.str (cutP s l h))) := by simp only [slcSem, c, if_true]
@[simp] theorem so_slcT {l h : Option Int} : slcSem (.imm (.tup ps)) l h = some (.imm (.tup (cutP ps l h))) := rfl
@[simp] theorem so_slcF {l h : Option Int} : slcSem (.imm (.lst ps)) l h = some (.lst (cutP ps l h)) := rfl
@[simp] theorem so_slcL {l h : Option Int} : slcSem (.lst ps) l h = some (.lst (cutP ps l h)) := rfl
/-! truth -/
@[simp] theorem st_non : truth (.imm .non) = some false := rfl
@[simp] theorem st_bl (c : Bool) : truth (.imm (.bl c)) = some c := rfl
@[simp] theorem st_int : truth (.imm (.int a)) = some (a != 0) := rfl
theorem st_str (h : s.length ≤ line) : truth (.imm (.str s)) = some (!s.isEmpty) := by simp only [truth, h, if_true]
@[simp] theorem st_tup : truth (.imm (.tup ps)) = some (!ps.isEmpty) := rfl
@[simp] theorem st_lst : truth (.imm (.lst ps)) = some (!ps.isEmpty) := rfl
@[simp] theorem st_own : truth (.lst ps) = some (!ps.isEmpty) := rfl
/-! walks -/
theorem it_rng1 {n : Nat} (h : n ≤ 1000000) : items .rng1 [.imm (.int n)] = some ((List.range n).map fun k : Nat => P.int (k : Int)) := by
  have : small62 (n : Int) = true := by
    unfold small62
    exact decide_eq_true (by have e : (2:Int)^62 = 4611686018427387904 := by decide
                             omega)
  simp only [items, this, if_true, Int.toNat_natCast]
theorem it_rng2 {i j : Int} (h : -1000000 ≤ i ∧ i ≤ 1000000 ∧ -1000000 ≤ j ∧ j ≤ 1000000) : items .rng2 [.imm (.int i), .imm (.int j)] = some ((List.range (j - i).toNat).map fun k : Nat => P.int (i + (k : Int))) := by
  have e : (2:Int)^62 = 4611686018427387904 := by decide
  have h1 : small62 i = true := by unfold small62; exact decide_eq_true (by omega)
  have h2 : small62 j = true := by unfold small62; exact decide_eq_true (by omega)
  simp only [items, h1, h2, Bool.and_self, if_true]
@[simp] theorem it_seqL : items .seq [.lst ps] = some ps := rfl
@[simp] theorem it_seqF : items .seq [.imm (.lst ps)] = some ps := rfl
@[simp] theorem it_seqT : items .seq [.imm (.tup ps)] = some ps := rfl
@[simp] theorem it_seqS : items .seq [.imm (.str s)] = some (s.map fun c => .str [c]) := rfl
/-! changes -/
theorem mu_app (h : ps.length < line) : mutSem .append ps [.imm p] = some (ps ++ [p], .non) := by simp only [mutSem, h, if_true]
@[simp] theorem au_add : augSem .add (.imm (.int a)) (.imm (.int b)) = some (.imm (.int (a + b))) := rfl
@[simp] theorem au_sub : augSem .sub (.imm (.int a)) (.imm (.int b)) = some (.imm (.int (a - b))) := rfl
theorem au_str (h : s.length + t.length ≤ line) : augSem .add (.imm (.str s)) (.imm (.str t)) = some (.imm (.str (s ++ t))) := by simp only [augSem, h, if_true]
@[simp] theorem li_own : listOf (.lst ps) = some ps := rfl
@[simp] theorem li_imm : listOf (.imm (.lst ps)) = some ps := rfl
@[simp] theorem rd_imm : rd (.imm p) = p := rfl
@[simp] theorem rd_lst : rd (.lst ps) = .lst ps := rfl
end
/-! places and cuts -/
theorem ix_nat {n i : Nat} (h : i < n) : ixP n (i : Int) = some i := by
  unfold ixP
  rw [if_pos (by omega), if_pos (by omega)] <;> rfl
theorem at_nat {α : Type} {xs : List α} {i : Nat} (h : i < xs.length) : atP xs (i : Int) = xs[i]? := by
  unfold atP
  rw [ix_nat h, Option.bind_some]
theorem sIx_nat {n d i : Nat} : sIxP n d (some (i : Int)) = min i n := by
  unfold sIxP
  simp only
  rw [if_neg (by omega), Int.toNat_natCast]
theorem cut_nn {α : Type} (xs : List α) (i j : Nat) : cutP xs (some (i : Int)) (some (j : Int)) = (xs.drop i).take (j - i) := by
  unfold cutP
  rw [sIx_nat, sIx_nat]
  by_cases h : i ≤ xs.length
  · rw [Nat.min_eq_left h]
    by_cases h2 : j ≤ xs.length
    · rw [Nat.min_eq_left h2]
    · rw [Nat.min_eq_right (Nat.le_of_lt (Nat.lt_of_not_le h2)), List.take_of_length_le (by rw [List.length_drop]; exact Nat.le_refl _), List.take_of_length_le (by rw [List.length_drop]; omega)]
  · have e : min i xs.length = xs.length := Nat.min_eq_right (Nat.le_of_lt (Nat.lt_of_not_le h))
    rw [e, List.drop_of_length_le (Nat.le_refl _), List.drop_of_length_le (Nat.le_of_lt (Nat.lt_of_not_le h))]
    simp
theorem cut_n0 {α : Type} (xs : List α) (i : Nat) : cutP xs (some (i : Int)) none = xs.drop i := by
  unfold cutP
  rw [sIx_nat]
  show (xs.drop (min i xs.length)).take (xs.length - min i xs.length) = _
  by_cases h : i ≤ xs.length
  · rw [Nat.min_eq_left h, List.take_of_length_le (by rw [List.length_drop]; exact Nat.le_refl _)]
  · have e : min i xs.length = xs.length := Nat.min_eq_right (Nat.le_of_lt (Nat.lt_of_not_le h))
    rw [e, List.drop_of_length_le (Nat.le_refl _), List.drop_of_length_le (Nat.le_of_lt (Nat.lt_of_not_le h))]
    simp
theorem cut_0n {α : Type} (xs : List α) (j : Nat) : cutP xs none (some (j : Int)) = xs.take j := by
  unfold cutP
  rw [sIx_nat]
  show (xs.drop 0).take (min j xs.length - 0) = _
  rw [List.drop_zero, Nat.sub_zero]
  by_cases h : j ≤ xs.length
  · rw [Nat.min_eq_left h]
  · rw [Nat.min_eq_right (by omega), List.take_of_length_le (Nat.le_refl _), List.take_of_length_le (by omega)]
theorem wp_seq {Φ : CallS} {G : List P} {a : T} {as : List T} {e : En} {Q : Fl × En → Prop} (M : Fl × En → Prop) (h1 : ∀ R : Fl × En → Prop, (∀ r, M r → R r) → wp (ex Φ G a e) R) (h2 : ∀ r, M r → match r.1 with
    | .nx => wp (exs Φ G as r.2) Q
    | f => Q (f, r.2)) : wp (exs Φ G (a :: as) e) Q := by
  rw [sx_scons, wp_bind]
  refine h1 _ fun r hr => ?_
  have := h2 r hr
  obtain ⟨fl, e'⟩ := r
  cases fl with
  | nx => exact this
  | bk => exact (wp_some _).mpr this
  | ct => exact (wp_some _).mpr this
  | rt d => exact (wp_some _).mpr this
def tst (Φ : CallS) (G : List P) (t : E) (e : En) : Option (Bool × En) := (evo Φ G t e).bind fun x => (resv x.2 x.1).bind fun d => (truth d).bind fun k => some (k, x.2)
theorem wp_stepT {Φ : CallS} {G : List P} {t : E} {body : List T} {e e' : En} {Q : Bool × Fl × En → Prop} (h : tst Φ G t e = some (true, e')) (hb : wp (exs Φ G body e') fun r => Q (true, r.1, r.2)) : wp (stepWw Φ G t body e) Q := by
  have e1 : stepWw Φ G t body e = (tst Φ G t e).bind fun z => if z.1 then (exs Φ G body z.2).bind fun r => some (true, r.1, r.2) else some (false, .nx, z.2) := by
    unfold stepWw tst
    cases evo Φ G t e with
    | none => rfl
    | some x =>
      simp only [Option.bind_some]
      cases resv x.2 x.1 with
      | none => rfl
      | some d =>
        simp only [Option.bind_some]
        cases truth d <;> rfl
  rw [e1, h]
  simpa using hb
theorem wp_all {α : Type} {x : Option α} {M : α → Prop} (h : ∀ R : α → Prop, (∀ r, M r → R r) → wp x R) : ∃ r, x = some r ∧ M r := h M fun _ m => m
theorem at_last {α : Type} {xs : List α} (h : xs ≠ []) : atP xs (-1) = xs[xs.length - 1]? := by
  have hl : 0 < xs.length := List.length_pos_iff.mpr h
  have : ixP xs.length (-1) = some (xs.length - 1) := by
    unfold ixP
    rw [if_neg (by decide), if_pos (by omega)]
    congr 1
    omega
  unfold atP
  rw [this, Option.bind_some]
theorem mul_l {a b : Int} (h : -(2 ^ 64) < a ∧ a < 2 ^ 64) : mulOk a b = true := by
  unfold mulOk
  rw [decide_eq_true h] <;> rfl
theorem mul_r {a b : Int} (h : -(2 ^ 64) < b ∧ b < 2 ^ 64) : mulOk a b = true := by
  unfold mulOk
  rw [decide_eq_true (p := -(2 ^ 64) < b ∧ b < 2 ^ 64) h, Bool.or_true]
theorem wp_is {α : Type} {x : Option α} {a : α} (h : wp x fun r => r = a) : x = some a := by
  obtain ⟨b, e, rfl⟩ := h
  exact e
theorem rng_get {n i : Nat} {p : P} (h : ((List.range n).map fun k : Nat => P.int (k : Int))[i]? = some p) : i < n ∧ p = .int i := by
  have hi : i < n := by
    have := (List.getElem?_eq_some_iff.mp h).1
    simpa using this
  refine ⟨hi, ?_⟩
  have e : ((List.range n).map fun k : Nat => P.int (k : Int))[i]? = some (.int i) := by simp [hi]
  rw [e] at h
  exact (Option.some.inj h).symm
theorem chr_get {w : List Nat} {i : Nat} {p : P} (h : (w.map fun c => P.str [c])[i]? = some p) : ∃ c, w[i]? = some c ∧ p = .str [c] := by
  rw [List.getElem?_map] at h
  cases q : w[i]? with
  | none => rw [q] at h; cases h
  | some c => rw [q] at h; cases h; exact ⟨c, rfl, rfl⟩
theorem int_get {ns : List Int} {i : Nat} {p : P} (h : (ns.map P.int)[i]? = some p) : ∃ c, ns[i]? = some c ∧ p = .int c := by
  rw [List.getElem?_map] at h
  cases q : ns[i]? with
  | none => rw [q] at h; cases h
  | some c => rw [q] at h; cases h; exact ⟨c, rfl, rfl⟩
/-! what is drawn -/
def WC (xs : List P) : Prop := ∃ (ns : List Int) (i pool t : Nat), xs = [.lst (ns.map P.int), .int i, .int pool, .int t, .int 20] ∧ i ≤ ns.length
theorem atC {a b c d e : P} : atP [a, b, c, d, e] 0 = some a ∧ atP [a, b, c, d, e] 1 = some b ∧ atP [a, b, c, d, e] 2 = some c ∧ atP [a, b, c, d, e] 3 = some d := by
  refine ⟨?_, ?_, ?_, ?_⟩
  · exact at_nat (i := 0) (by simp)
  · exact at_nat (i := 1) (by simp)
  · exact at_nat (i := 2) (by simp)
  · exact at_nat (i := 3) (by simp)
theorem ixC : ixP 5 1 = some 1 ∧ ixP 5 2 = some 2 ∧ ixP 5 3 = some 3 := ⟨ix_nat (i := 1) (by decide), ix_nat (i := 2) (by decide), ix_nat (i := 3) (by decide)⟩
theorem mulK {a : Int} : mulOk a 69621 = true ∧ mulOk a 48271 = true ∧ mulOk a 7919 = true := ⟨mul_r (by decide), mul_r (by decide), mul_r (by decide)⟩
theorem mulM {a b : Int} : mulOk (a.fmod 2147483647) b = true := mul_l (by
  have h1 := Int.fmod_nonneg_of_pos a (show (0 : Int) < 2147483647 by decide)
  have h2 := Int.fmod_lt_of_pos a (show (0 : Int) < 2147483647 by decide)
  omega)
theorem fill_end (a : Int) (t : Nat) : ∃ n : Nat, (a * a + ((t : Int) + 1) * 7919 + 11).fdiv 64 + 36028797018963968 = (n : Int) := by
  refine Int.eq_ofNat_of_zero_le ?_
  have h1 : 0 ≤ a * a := by
    rcases Int.le_total 0 a with h | h
    · exact Int.mul_nonneg h h
    · exact Int.mul_nonneg_of_nonpos_of_nonpos h h
  have h2 : 0 ≤ (a * a + ((t : Int) + 1) * 7919 + 11).fdiv 64 := Int.fdiv_nonneg (by omega) (by decide)
  omega
end Sw
/-! Sz: what the laws share, without a program. -/
namespace Sw
def isI : P → Bool
  | .int _ => true
  | _ => false
theorem cut_b (w : List Nat) (b m : Nat) : cutP w (some (b : Int)) (some ((b : Int) + (m : Int))) = (w.drop b).take m := by
  rw [show (b : Int) + (m : Int) = ((b + m : Nat) : Int) by omega, cut_nn]
  congr 1
  omega
theorem truth_bls (bs : List Bool) : (bs.map P.bl).all fitP = true ∧ (bs.map P.bl).any truthP = bs.any id ∧ (bs.map P.bl).all truthP = bs.all id := by
  refine ⟨?_, ?_, ?_⟩
  · rw [List.all_map, List.all_eq_true]; intro x _; rfl
  · rw [List.any_map]; rfl
  · rw [List.all_map]; rfl
theorem so_any (bs : List Bool) : opSem .any [.lst (bs.map P.bl)] = some (.imm (.bl (bs.any id))) := by
  obtain ⟨h1, h2, h3⟩ := truth_bls bs
  simp only [opSem, opAny, seqOf, listOf, Option.bind_some, h1, h2, if_true]
  rfl
theorem so_all (bs : List Bool) : opSem .all [.lst (bs.map P.bl)] = some (.imm (.bl (bs.all id))) := by
  obtain ⟨h1, h2, h3⟩ := truth_bls bs
  simp only [opSem, opAll, seqOf, listOf, Option.bind_some, h1, h3, if_true]
  rfl
theorem it_zipT (a b : List P) : items .zip [.imm (.tup a), .imm (.tup b)] = some ((a.zip b).map fun q => .tup [q.1, q.2]) := rfl
def nat2 (bs : List Nat) : List P := bs.map fun b : Nat => P.int (b : Int)
def incr : List Nat → Bool
  | [] => true
  | [_] => true
  | a :: b :: r => decide (a < b) && incr (b :: r)
theorem incr_tail {a : Nat} {bs : List Nat} (h : incr (a :: bs) = true) : incr bs = true := by
  cases bs with
  | nil => rfl
  | cons b r =>
    have h : (decide (a < b) && incr (b :: r)) = true := h
    exact (Bool.and_eq_true _ _ ▸ h).2
theorem incr_at : ∀ {bs : List Nat} {i a b : Nat}, incr bs = true → bs[i]? = some a → bs[i + 1]? = some b → a < b
  | [], i, a, b, _, h, _ => by simp at h
  | [x], i, a, b, _, _, h => by simp at h
  | x :: y :: r, 0, a, b, h, h1, h2 => by
    have h : (decide (x < y) && incr (y :: r)) = true := h
    simp only [Bool.and_eq_true, decide_eq_true_eq] at h
    simp at h1 h2
    omega
  | x :: y :: r, i + 1, a, b, h, h1, h2 => by
    have h : (decide (x < y) && incr (y :: r)) = true := h
    simp only [Bool.and_eq_true] at h
    exact incr_at (i := i) h.2 (by simpa using h1) (by simpa using h2)
theorem zip_incr : ∀ bs : List Nat, ((bs.zip bs.tail).map fun q => decide (q.1 < q.2)).all id = incr bs
  | [] => rfl
  | [x] => rfl
  | x :: y :: r => by
    have ih := zip_incr (y :: r)
    show (decide (x < y) && (((y :: r).zip r).map fun q => decide (q.1 < q.2)).all id) = (decide (x < y) && incr (y :: r))
    rw [← ih]
    rfl
theorem all_isI : ∀ {ps : List P}, ps.all isI = true → ∃ ns : List Int, ps = ns.map P.int
  | [], _ => ⟨[], rfl⟩
  | p :: ps, h => by
    rw [List.all_cons, Bool.and_eq_true] at h
    obtain ⟨ns, rfl⟩ := all_isI h.2
    cases p <;> first | (cases h.1; done) | exact ⟨_ :: ns, rfl⟩
theorem wp_at {α : Type} {xs : List α} {d : Nat} {Q : α → Prop} (h : d < xs.length) (q : ∀ r, r ∈ xs → Q r) : wp (atP xs (d : Int)) Q := by
  rw [at_nat h, List.getElem?_eq_getElem h]
  exact ⟨_, rfl, q _ (List.getElem_mem h)⟩
theorem cut_len {α : Type} (xs : List α) (lo hi : Option Int) : (cutP xs lo hi).length ≤ xs.length := by
  unfold cutP
  rw [List.length_take, List.length_drop]
  omega
theorem cut_mem {α : Type} {xs : List α} {lo hi : Option Int} {x : α} (h : x ∈ cutP xs lo hi) : x ∈ xs := List.mem_of_mem_drop (List.mem_of_mem_take h)
def Sm (n : Nat) : Nat → P → Prop
  | 0, v => (match v with
    | .tup _ => False
    | .lst _ => False
    | .str s => s.length ≤ n
    | _ => True)
  | d + 1, v => (match v with
    | .tup ps => ps.length ≤ n ∧ ∀ p ∈ ps, Sm n d p
    | .lst ps => ps.length ≤ n ∧ ∀ p ∈ ps, Sm n d p
    | .str s => s.length ≤ n
    | _ => True)
theorem Sm.mono {n m : Nat} (h : n ≤ m) : ∀ {d : Nat} {v : P}, Sm n d v → Sm m d v
  | 0, v, q => by cases v <;> first | exact q | exact Nat.le_trans q h
  | d + 1, v, q => by cases v <;> first | exact q | exact Nat.le_trans q h | exact ⟨Nat.le_trans q.1 h, fun p hp => Sm.mono h (q.2 p hp)⟩
theorem Sm.up {n : Nat} : ∀ {d : Nat} {v : P}, Sm n d v → Sm n (d + 1) v
  | 0, v, q => by cases v <;> first | exact q | exact q.elim
  | d + 1, v, q => by cases v <;> first | exact q | exact ⟨q.1, fun p hp => Sm.up (q.2 p hp)⟩
theorem sm_int {n d : Nat} {i : Int} : Sm n d (.int i) := by cases d <;> trivial
theorem sm_bl {n d : Nat} {i : Bool} : Sm n d (.bl i) := by cases d <;> trivial
theorem sm_non {n d : Nat} : Sm n d .non := by cases d <;> trivial
theorem sm_str {n d : Nat} {s : List Nat} (h : s.length ≤ n) : Sm n d (.str s) := by cases d <;> exact h
theorem Sm.ups {n d : Nat} {v : P} (h : Sm n d v) : ∀ m, Sm n (d + m) v
  | 0 => h
  | m + 1 => (h.ups m).up
theorem sm_tup {n d : Nat} {ps : List P} (h : ps.length ≤ n) (q : ∀ p ∈ ps, Sm n d p) : Sm n (d + 1) (.tup ps) := ⟨h, q⟩
theorem sm_lst {n d : Nat} {ps : List P} (h : ps.length ≤ n) (q : ∀ p ∈ ps, Sm n d p) : Sm n (d + 1) (.lst ps) := ⟨h, q⟩
theorem nat2_snoc (bs : List Nat) (c : Nat) : nat2 bs ++ [P.int (c : Int)] = nat2 (bs ++ [c]) := by
  unfold nat2
  rw [List.map_append] <;> rfl
theorem nat2_len (bs : List Nat) : (nat2 bs).length = bs.length := by simp [nat2]
theorem so_mulL {xs : List P} {n : Nat} (h : xs.length * n ≤ line) (hn : n ≤ 100000) : opSem .mul [.lst xs, .imm (.int n)] = some (.lst (rept xs n)) := by
  have e : (2 : Int) ^ 62 = 4611686018427387904 := by decide
  simp only [opSem, opMul]
  rw [if_pos ⟨by omega, by omega, by rw [Int.toNat_natCast]; exact h⟩]
theorem rept_one (x : P) (n : Nat) : rept [x] (n : Int) = List.replicate n x := by
  unfold rept
  rw [Int.toNat_natCast]
  induction n with
  | zero => rfl
  | succ n ih => rw [List.replicate_succ, List.flatten_cons, ih, List.replicate_succ] <;> rfl
theorem nat2_get {T : List Nat} {j v : Nat} (h : T[j]? = some v) : atP (nat2 T) (j : Int) = some (.int v) := by
  have hl : j < (nat2 T).length := by rw [nat2_len]; exact (List.getElem?_eq_some_iff.mp h).1
  rw [at_nat hl]
  unfold nat2
  rw [List.getElem?_map, h] <;> rfl
theorem nat2_set (T : List Nat) (j v : Nat) : (nat2 T).set j (P.int (v : Int)) = nat2 (T.set j v) := by
  unfold nat2
  rw [List.map_set]
theorem min_nat (a b : Nat) : (if (b : Int) < (a : Int) then (b : Int) else (a : Int)) = ((min a b : Nat) : Int) := by
  split <;> omega
theorem so_neB (a b : Bool) : opSem .ne [.imm (.bl a), .imm (.bl b)] = some (.imm (.bl (a != b))) := by
  simp only [opSem, cmpEq, rd, depth, peq]
  cases a <;> cases b <;> rfl
theorem so_eqB (a b : Bool) : opSem .eq [.imm (.bl a), .imm (.bl b)] = some (.imm (.bl (a == b))) := by
  simp only [opSem, cmpEq, rd, depth, peq]
  cases a <;> cases b <;> rfl
def AL : Nat → P → Prop
  | 0, v => (match v with
    | .int _ => True
    | .str _ => True
    | _ => False)
  | d + 1, v => (match v with
    | .int _ => True
    | .str _ => True
    | .tup ps => ps.length ≤ 500 ∧ ∀ p ∈ ps, AL d p
    | _ => False)
theorem all_true (n : Nat) : (List.replicate n true).all id = true := by
  rw [List.all_eq_true]
  intro x hx
  rw [List.eq_of_mem_replicate hx] <;> rfl
theorem strs_all : ∀ ss : List (List Nat), allStrs (ss.map P.str) = some ss
  | [] => rfl
  | b :: bs => by
    rw [List.map_cons]
    show (allStrs (bs.map P.str)).map (b :: ·) = _
    rw [strs_all bs] <;> rfl
theorem joinL_nil : ∀ ss : List (List Nat), joinL [] ss = ss.flatten
  | [] => rfl
  | [x] => by simp [joinL]
  | x :: y :: r => by
    show x ++ [] ++ joinL [] (y :: r) = _
    rw [joinL_nil (y :: r), List.append_nil] <;> rfl
theorem so_join (ss : List (List Nat)) (h : (ss.map List.length).sum ≤ line) : opSem .join [.imm (.str []), .lst (ss.map P.str)] = some (.imm (.str ss.flatten)) := by
  simp only [opSem, opJoin, elems, Option.bind_some, strs_all]
  rw [if_pos (by simpa using h), joinL_nil]
theorem rept_chr (c n : Nat) : rept [c] (n : Int) = List.replicate n c := by
  unfold rept
  rw [Int.toNat_natCast]
  induction n with
  | zero => rfl
  | succ n ih => rw [List.replicate_succ, List.flatten_cons, ih, List.replicate_succ] <;> rfl
theorem so_mulS (c n : Nat) (h : n ≤ 100000) : opSem .mul [.imm (.str [c]), .imm (.int n)] = some (.imm (.str (List.replicate n c))) := by
  have e : (2 : Int) ^ 62 = 4611686018427387904 := by decide
  simp only [opSem, opMul]
  rw [if_pos ⟨by omega, by omega, by rw [Int.toNat_natCast]; exact le_lineN (by simp; omega)⟩, rept_chr]
theorem al_nat2 (l : List Nat) (h : l.length ≤ 500) : AL 1 (.tup (nat2 l)) := by
  refine ⟨by rw [nat2_len]; exact h, fun p hp => ?_⟩
  obtain ⟨c, _, rfl⟩ := List.mem_map.mp hp
  trivial
end Sw
/-! Sz2: order, least, sorted. -/
namespace Sw
open PySem PySem.W
theorem ltD_irrefl (p : P) : ltD p p = false := PyProof.Rows.lex_irrefl _
theorem ltD_neg (a b c : P) (h : ltD a c = true) : ltD a b = true ∨ ltD b c = true := PyProof.Rows.lex_negTrans _ _ _ h
theorem ltD_trans {a b c : P} (h : ltD a b = true) (h2 : ltD b c = true) : ltD a c = true := PyProof.Rows.lex_trans _ _ _ h h2
theorem ltD_le_trans {a b c : P} (h1 : ltD b a = false) (h2 : ltD c b = false) : ltD c a = false := by
  cases h : ltD c a with
  | false => rfl
  | true => rcases ltD_neg c b a h with q | q <;> simp_all
theorem ltD_asym {a b : P} (h : ltD a b = true) : ltD b a = false := by
  cases q : ltD b a with
  | false => rfl
  | true => have := ltD_trans h q; rw [ltD_irrefl] at this; cases this
theorem ltD_str (a b : List Nat) : ltD (.str a) (.str b) = decide (a < b) := by
  unfold ltD
  simp only [toPy]
  rw [dataLt_str] <;> rfl
theorem ltD_int (a b : Int) : ltD (.int a) (.int b) = decide (a < b) := by
  unfold ltD
  simp only [toPy]
  rw [dataLt_int]
theorem ltD_pair {x y x' y' : P} (h : alike (toPy x) (toPy x') = true) (h' : alike (toPy y) (toPy y') = true) : ltD (.tup [x, y]) (.tup [x', y']) = if PyData.eqv (toPy x) (toPy x') = true then (if PyData.eqv (toPy y) (toPy y') = true then false else ltD y y') else ltD x x' := by
  unfold ltD
  simp only [toPy, toPys]
  exact dataLt_pair h h'
theorem ltD_si (a b : List Nat) (i j : Int) : ltD (.tup [.str a, .int i]) (.tup [.str b, .int j]) = if a = b then decide (i < j) else decide (a < b) := by
  rw [ltD_pair (by simp [toPy, alike]) (by simp [toPy, alike]), ltD_str, ltD_int]
  have e1 : ((PyData.eqv (toPy (.str a)) (toPy (.str b))) = true) ↔ (a = b) := by
    simp only [toPy, PyData.eqv]
    refine ⟨fun h => sOf_inj (by simpa using h), fun h => by simp [h]⟩
  by_cases h : a = b
  · rw [if_pos (e1.mpr h), if_pos h]
    by_cases h2 : i = j
    · rw [if_pos (by simp [toPy, PyData.eqv, h2])]
      simp [h2]
    · rw [if_neg (by simp [toPy, PyData.eqv, h2])]
  · rw [if_neg (fun q => h (e1.mp q)), if_neg h]
theorem minD_spec : ∀ (ps : List P) (p : P), minD p ps ∈ p :: ps ∧ ∀ q ∈ p :: ps, ltD q (minD p ps) = false
  | [], p => ⟨List.mem_singleton.mpr rfl, fun q hq => by rw [List.mem_singleton.mp hq]; exact ltD_irrefl p⟩
  | y :: ys, p => by
    have e : minD p (y :: ys) = minD (if ltD y p then y else p) ys := rfl
    rw [e]
    obtain ⟨h1, h2⟩ := minD_spec ys (if ltD y p then y else p)
    cases hl : ltD y p with
    | true =>
      rw [hl] at h1 h2
      simp only [if_true] at h1 h2 ⊢
      refine ⟨List.mem_cons_of_mem _ h1, fun q hq => ?_⟩
      rcases List.mem_cons.mp hq with rfl | hq
      · exact ltD_le_trans (h2 y List.mem_cons_self) (ltD_asym hl)
      · exact h2 q hq
    | false =>
      rw [hl] at h1 h2
      simp only [Bool.false_eq_true, if_false] at h1 h2 ⊢
      refine ⟨(List.mem_cons.mp h1).elim (fun h => by rw [h]; exact List.mem_cons_self) fun h => List.mem_cons_of_mem _ (List.mem_cons_of_mem _ h), fun q hq => ?_⟩
      rcases List.mem_cons.mp hq with rfl | hq
      · exact h2 q List.mem_cons_self
      · rcases List.mem_cons.mp hq with rfl | hq
        · exact ltD_le_trans (h2 p List.mem_cons_self) hl
        · exact h2 q (List.mem_cons_of_mem _ hq)
theorem maxD_spec : ∀ (ps : List P) (p : P), maxD p ps ∈ p :: ps ∧ ∀ q ∈ p :: ps, ltD (maxD p ps) q = false
  | [], p => ⟨List.mem_singleton.mpr rfl, fun q hq => by rw [List.mem_singleton.mp hq]; exact ltD_irrefl p⟩
  | y :: ys, p => by
    have e : maxD p (y :: ys) = maxD (if ltD p y then y else p) ys := rfl
    rw [e]
    obtain ⟨h1, h2⟩ := maxD_spec ys (if ltD p y then y else p)
    cases hl : ltD p y with
    | true =>
      rw [hl] at h1 h2
      simp only [if_true] at h1 h2 ⊢
      refine ⟨List.mem_cons_of_mem _ h1, fun q hq => ?_⟩
      rcases List.mem_cons.mp hq with rfl | hq
      · exact ltD_le_trans (ltD_asym hl) (h2 y List.mem_cons_self)
      · exact h2 q hq
    | false =>
      rw [hl] at h1 h2
      simp only [Bool.false_eq_true, if_false] at h1 h2 ⊢
      refine ⟨(List.mem_cons.mp h1).elim (fun h => by rw [h]; exact List.mem_cons_self) fun h => List.mem_cons_of_mem _ (List.mem_cons_of_mem _ h), fun q hq => ?_⟩
      rcases List.mem_cons.mp hq with rfl | hq
      · exact h2 q List.mem_cons_self
      · rcases List.mem_cons.mp hq with rfl | hq
        · exact ltD_le_trans hl (h2 p List.mem_cons_self)
        · exact h2 q (List.mem_cons_of_mem _ hq)
theorem sortD_perm (ps : List P) : (sortD ps).Perm ps := List.mergeSort_perm ..
theorem sortD_sorted (ps : List P) : (sortD ps).Pairwise fun a b => ltD b a = false := by
  have := List.pairwise_mergeSort (le := fun a b => !ltD b a) (fun a b c h1 h2 => by
    simp only [Bool.not_eq_true'] at h1 h2 ⊢
    exact ltD_le_trans h1 h2) (fun a b => by
    cases h : ltD b a with
    | false => rfl
    | true => simp [ltD_asym h]) ps
  exact this.imp fun {a b} h => by simpa using h
theorem sortD_head {ps : List P} (h : ps ≠ []) : ∃ x t, sortD ps = x :: t ∧ x ∈ ps ∧ ∀ q ∈ ps, ltD q x = false := by
  cases e : sortD ps with
  | nil => exact absurd (List.Perm.eq_nil (e ▸ (sortD_perm ps).symm)) h
  | cons x t =>
    refine ⟨x, t, rfl, (sortD_perm ps).mem_iff.mp (by rw [e]; exact List.mem_cons_self), fun q hq => ?_⟩
    have hq' : q ∈ x :: t := by rw [← e]; exact (sortD_perm ps).mem_iff.mpr hq
    have hs := sortD_sorted ps
    rw [e] at hs
    rcases List.mem_cons.mp hq' with rfl | hq'
    · exact ltD_irrefl q
    · exact (List.pairwise_cons.mp hs).1 q hq'
theorem alikes_by {ps : List P} (h : ∀ p ∈ ps, ∀ q ∈ ps, PySem.W.alike (toPy p) (toPy q) = true) : alikes ps = true := List.all_eq_true.mpr fun p hp => List.all_eq_true.mpr fun q hq => h p hp q hq
theorem depths_le {n : Nat} : ∀ {ps : List P}, (∀ p ∈ ps, depth p ≤ n) → depths ps ≤ n
  | [], _ => by simp [depths]
  | p :: ps, h => by
    have h1 := h p List.mem_cons_self
    have h2 := depths_le (n := n) fun q hq => h q (List.mem_cons_of_mem _ hq)
    simp only [depths]
    omega
theorem so_sortS {ws : List (List Nat)} (h : ws.length ≤ line) : opSem .sorted [.lst (ws.map P.str)] = some (.lst (sortD (ws.map P.str))) := by
  simp only [opSem, opSorted, seqOf, listOf, Option.bind_some]
  rw [if_pos]
  unfold sortOk
  have h1 : alikes (ws.map P.str) = true := alikes_by fun p hp q hq => by
    obtain ⟨a, _, rfl⟩ := List.mem_map.mp hp
    obtain ⟨b, _, rfl⟩ := List.mem_map.mp hq
    simp [toPy, alike]
  have h2 : (ws.map P.str).all (fun p => !isNonP p && !isTupP p) = true := List.all_eq_true.mpr fun p hp => by
    obtain ⟨a, _, rfl⟩ := List.mem_map.mp hp
    rfl
  have h3 : depths (ws.map P.str) ≤ 50 := depths_le fun p hp => by
    obtain ⟨a, _, rfl⟩ := List.mem_map.mp hp
    simp [depth]
  rw [h1, h2, Bool.or_true, decide_eq_true h3, decide_eq_true (by simpa using h)] <;> rfl
theorem so_minSI {ws : List (List Nat × Nat)} {w : List Nat × Nat} : opSem .minL [.lst ((w :: ws).map fun q => P.tup [.str q.1, .int (q.2 : Int)])] = some (.imm (minD (.tup [.str w.1, .int (w.2 : Int)]) (ws.map fun q => P.tup [.str q.1, .int (q.2 : Int)]))) := by
  simp only [opSem, opMinL, seqOf, listOf, Option.bind_some, List.map_cons]
  rw [if_pos]
  unfold minOk
  rw [← List.map_cons (f := fun q : List Nat × Nat => P.tup [.str q.1, .int (q.2 : Int)])]
  have h1 : alikes ((w :: ws).map fun q => P.tup [.str q.1, .int (q.2 : Int)]) = true := alikes_by fun p hp q hq => by
    obtain ⟨a, _, rfl⟩ := List.mem_map.mp hp
    obtain ⟨b, _, rfl⟩ := List.mem_map.mp hq
    simp [toPy, toPys, alike, alikeAll]
  have h2 : ((w :: ws).map fun q => P.tup [.str q.1, .int (q.2 : Int)]).all (fun p => !isNonP p) = true := List.all_eq_true.mpr fun p hp => by
    obtain ⟨a, _, rfl⟩ := List.mem_map.mp hp
    rfl
  have h3 : depths ((w :: ws).map fun q => P.tup [.str q.1, .int (q.2 : Int)]) ≤ 50 := depths_le fun p hp => by
    obtain ⟨a, _, rfl⟩ := List.mem_map.mp hp
    simp [depth, depths]
  rw [h1, h2, decide_eq_true h3] <;> rfl
theorem so_maxI {x : Int} {xs : List Int} : opSem .maxL [.lst ((x :: xs).map P.int)] = some (.imm (maxD (.int x) (xs.map P.int))) := by
  simp only [opSem, opMaxL, seqOf, listOf, Option.bind_some, List.map_cons]
  rw [if_pos]
  unfold minOk
  rw [← List.map_cons (f := P.int)]
  have h1 : alikes ((x :: xs).map P.int) = true := alikes_by fun p hp q hq => by
    obtain ⟨a, _, rfl⟩ := List.mem_map.mp hp
    obtain ⟨b, _, rfl⟩ := List.mem_map.mp hq
    simp [toPy, alike]
  have h2 : ((x :: xs).map P.int).all (fun p => !isNonP p) = true := List.all_eq_true.mpr fun p hp => by
    obtain ⟨a, _, rfl⟩ := List.mem_map.mp hp
    rfl
  have h3 : depths ((x :: xs).map P.int) ≤ 50 := depths_le fun p hp => by
    obtain ⟨a, _, rfl⟩ := List.mem_map.mp hp
    simp [depth]
  rw [h1, h2, decide_eq_true h3] <;> rfl
theorem ascii_by {s : List Nat} (h : ∀ c ∈ s, c < 128) (l : s.length ≤ 100000) : ascii s = true := by
  unfold ascii
  rw [Bool.and_eq_true]
  exact ⟨List.all_eq_true.mpr fun c hc => decide_eq_true (h c hc), decide_eq_true (by omega)⟩
theorem so_swap {s : List Nat} (h : ∀ c ∈ s, c < 128) (l : s.length ≤ 100000) : opSem .swapcase [.imm (.str s)] = some (.imm (.str (s.map swC))) := by
  simp only [opSem, opTx, ascii_by h l, if_true]
theorem so_lower {s : List Nat} (h : ∀ c ∈ s, c < 128) (l : s.length ≤ 100000) : opSem .lower [.imm (.str s)] = some (.imm (.str (s.map loC))) := by
  simp only [opSem, opTx, ascii_by h l, if_true]
theorem so_upper {s : List Nat} (h : ∀ c ∈ s, c < 128) (l : s.length ≤ 100000) : opSem .upper [.imm (.str s)] = some (.imm (.str (s.map upC))) := by
  simp only [opSem, opTx, ascii_by h l, if_true]
theorem so_revS {s : List Nat} (h : s.length ≤ line) : opSem .rev [.imm (.str s)] = some (.imm (.str s.reverse)) := by
  simp only [opSem, opRev, h, if_true]
theorem so_mulW {s : List Nat} {n : Nat} (h : s.length * n ≤ line) (hn : n ≤ 100000) : opSem .mul [.imm (.str s), .imm (.int n)] = some (.imm (.str (List.replicate n s).flatten)) := by
  have e : (2 : Int) ^ 62 = 4611686018427387904 := by decide
  simp only [opSem, opMul]
  rw [if_pos ⟨by omega, by omega, by rw [Int.toNat_natCast]; exact h⟩]
  unfold rept
  rw [Int.toNat_natCast]
theorem cut_init {α : Type} (s : List α) : cutP s none (some (-1)) = s.dropLast := by
  unfold cutP sIxP
  simp only
  rw [if_pos (by decide), List.drop_zero, List.dropLast_eq_take]
  congr 1
  omega
theorem flat_chr (w : List Nat) : (w.map fun c => [c]).flatten = w := by
  induction w with
  | nil => rfl
  | cons c w ih => rw [List.map_cons, List.flatten_cons, ih] <;> rfl
theorem find_chr (c : Nat) : ∀ (s : List Nat) (n : Nat), (findAt [c] s n).isSome = s.contains c
  | [], n => rfl
  | x :: xs, n => by
    unfold findAt
    by_cases h : c = x
    · subst h; simp [List.isPrefixOf]
    · have h2 : ¬ x = c := fun q => h q.symm
      simp [List.isPrefixOf, h, find_chr c xs (n + 1)]
theorem chr_list (w : List Nat) : (w.map fun c => P.str [c]) = (w.map fun c => [c]).map P.str := by rw [List.map_map] <;> rfl
theorem so_joinC {w : List Nat} (h : w.length ≤ line) : opSem .join [.imm (.str []), .lst ((w.map fun c => [c]).map P.str)] = some (.imm (.str w)) := by
  rw [so_join _ ?_, flat_chr]
  have : (((w.map fun c => [c]).map List.length)).sum = w.length := by rw [← List.length_flatten, flat_chr]
  rw [this]
  exact h
theorem so_modN {a b : Nat} (h : 0 < b) : opSem .mod [.imm (.int (a : Int)), .imm (.int (b : Int))] = some (.imm (.int ((a % b : Nat) : Int))) := by
  rw [so_mod (by omega), Int.fmod_eq_emod_of_nonneg _ (by omega)]
  rfl
theorem so_fdivN {a b : Nat} (h : 0 < b) (h2 : b < 1000000) : opSem .fdiv [.imm (.int (a : Int)), .imm (.int (b : Int))] = some (.imm (.int ((a / b : Nat) : Int))) := by
  rw [so_fdiv ⟨by omega, by omega⟩, Int.fdiv_eq_ediv_of_nonneg _ (by omega)]
  rfl
theorem so_maxN (a b : Nat) : opSem .max2 [.imm (.int (a : Int)), .imm (.int (b : Int))] = some (.imm (.int ((max a b : Nat) : Int))) := by
  rw [so_max]
  have : (if (b : Int) > (a : Int) then (b : Int) else (a : Int)) = ((max a b : Nat) : Int) := by split <;> omega
  rw [this]
theorem so_minN (a b : Nat) : opSem .min2 [.imm (.int (a : Int)), .imm (.int (b : Int))] = some (.imm (.int ((min a b : Nat) : Int))) := by
  rw [so_min]
  have : (if (b : Int) < (a : Int) then (b : Int) else (a : Int)) = ((min a b : Nat) : Int) := by split <;> omega
  rw [this]
theorem so_maxNat {l : List Nat} (h : l ≠ []) : ∃ m ∈ l, opSem .maxL [.lst (nat2 l)] = some (.imm (.int (m : Int))) ∧ ∀ q ∈ l, q ≤ m := by
  cases l with
  | nil => exact absurd rfl h
  | cons a l =>
    have e : nat2 (a :: l) = ((a : Int) :: l.map fun x : Nat => (x : Int)).map P.int := by
      unfold nat2
      rw [List.map_cons, List.map_cons, List.map_map] <;> rfl
    have h1 := so_maxI (x := (a : Int)) (xs := l.map fun x : Nat => (x : Int))
    rw [← e] at h1
    obtain ⟨h2, h3⟩ := maxD_spec ((l.map fun x : Nat => (x : Int)).map P.int) (.int (a : Int))
    have e2 : (P.int (a : Int) :: (l.map fun x : Nat => (x : Int)).map P.int) = nat2 (a :: l) := e.symm
    rw [e2] at h2 h3
    generalize maxD (.int (a : Int)) ((l.map fun x : Nat => (x : Int)).map P.int) = M at *
    obtain ⟨m, hm, rfl⟩ := List.mem_map.mp h2
    refine ⟨m, hm, h1, fun q hq => ?_⟩
    have := h3 (.int (q : Int)) (List.mem_map.mpr ⟨q, hq, rfl⟩)
    rw [ltD_int] at this
    have := of_decide_eq_false this
    omega
theorem so_minNat {l : List Nat} (h : l ≠ []) : ∃ m ∈ l, opSem .minL [.lst (nat2 l)] = some (.imm (.int (m : Int))) ∧ ∀ q ∈ l, m ≤ q := by
  cases l with
  | nil => exact absurd rfl h
  | cons a l =>
    have h1 : opSem .minL [.lst (nat2 (a :: l))] = some (.imm (minD (.int (a : Int)) (nat2 l))) := by
      simp only [opSem, opMinL, seqOf, listOf, Option.bind_some, nat2, List.map_cons]
      rw [if_pos]
      unfold minOk
      rw [← List.map_cons (f := fun b : Nat => P.int (b : Int))]
      have h1 : alikes ((a :: l).map fun b : Nat => P.int (b : Int)) = true := alikes_by fun p hp q hq => by
        obtain ⟨a, _, rfl⟩ := List.mem_map.mp hp
        obtain ⟨b, _, rfl⟩ := List.mem_map.mp hq
        simp [toPy, alike]
      have h2 : ((a :: l).map fun b : Nat => P.int (b : Int)).all (fun p => !isNonP p) = true := List.all_eq_true.mpr fun p hp => by
        obtain ⟨a, _, rfl⟩ := List.mem_map.mp hp
        rfl
      have h3 : depths ((a :: l).map fun b : Nat => P.int (b : Int)) ≤ 50 := depths_le fun p hp => by
        obtain ⟨a, _, rfl⟩ := List.mem_map.mp hp
        simp [depth]
      rw [h1, h2, decide_eq_true h3] <;> rfl
    obtain ⟨h2, h3⟩ := minD_spec (nat2 l) (.int (a : Int))
    have e2 : (P.int (a : Int) :: nat2 l) = nat2 (a :: l) := rfl
    rw [e2] at h2 h3
    generalize minD (.int (a : Int)) (nat2 l) = M at *
    obtain ⟨m, hm, rfl⟩ := List.mem_map.mp h2
    refine ⟨m, hm, h1, fun q hq => ?_⟩
    have := h3 (.int (q : Int)) (List.mem_map.mpr ⟨q, hq, rfl⟩)
    rw [ltD_int] at this
    have := of_decide_eq_false this
    omega
theorem so_reprB (b : Bool) : opSem .repr [.imm (.bl b)] = some (.imm (.str (if b then [84, 114, 117, 101] else [70, 97, 108, 115, 101]))) := rfl
end Sw
/-! words that cancel, in plain Lean -/
namespace Sw.k15
theorem sw_sw (c : Nat) : swC (swC c) = c := by
  unfold swC
  split <;> split <;> (try split) <;> omega
theorem tc_sw (c : Nat) : (if c = loC c then upC c else loC c) = swC c := by
  unfold swC loC upC
  split <;> split <;> (try split) <;> omega
theorem sw_eq {a b : Nat} : a = swC b ↔ b = swC a := ⟨fun h => by rw [h, sw_sw], fun h => by rw [h, sw_sw]⟩
def push (s : List Nat) (c : Nat) : List Nat := match s with
  | [] => [c]
  | x :: r => if x = swC c then r else c :: x :: r
def N (w s : List Nat) : List Nat := w.foldl push s
def Rd : List Nat → Prop
  | [] => True
  | [_] => True
  | x :: y :: r => x ≠ swC y ∧ Rd (y :: r)
theorem Rd.tail {x : Nat} {s : List Nat} (h : Rd (x :: s)) : Rd s := by
  cases s with
  | nil => trivial
  | cons y r => exact h.2
theorem rd_push {s : List Nat} (h : Rd s) (c : Nat) : Rd (push s c) := by
  cases s with
  | nil => trivial
  | cons x r =>
    unfold push
    simp only
    split
    · exact h.tail
    · rename_i hne
      exact ⟨fun q => hne (sw_eq.mp q), h⟩
theorem push2 {s : List Nat} (h : Rd s) (c : Nat) : push (push s c) (swC c) = s := by
  cases s with
  | nil =>
    show push [c] (swC c) = []
    simp [push, sw_sw]
  | cons x r =>
    by_cases hx : x = swC c
    · have e : push (x :: r) c = r := by simp [push, hx]
      rw [e, hx]
      cases r with
      | nil => rfl
      | cons y r =>
        have h1 : x ≠ swC y := h.1
        have : ¬ y = swC (swC c) := by
          rw [sw_sw]
          exact fun q => h1 (by rw [q]; exact hx)
        simp [push, this]
    · have e : push (x :: r) c = c :: x :: r := by simp [push, hx]
      rw [e]
      simp [push, sw_sw]
theorem push2' {s : List Nat} (h : Rd s) (c : Nat) : push (push s (swC c)) c = s := by
  have := push2 h (swC c)
  rwa [sw_sw] at this
theorem N_app (a b s : List Nat) : N (a ++ b) s = N b (N a s) := List.foldl_append ..
theorem rd_N : ∀ (w : List Nat) {s : List Nat}, Rd s → Rd (N w s)
  | [], s, h => h
  | c :: w, s, h => rd_N w (rd_push h c)
def iv (w : List Nat) : List Nat := w.reverse.map swC
def red (w : List Nat) : List Nat := (N w []).reverse
def Eqv (a b : List Nat) : Prop := ∀ s, Rd s → N a s = N b s
theorem Eqv.rfl' {a : List Nat} : Eqv a a := fun _ _ => rfl
theorem Eqv.symm' {a b : List Nat} (h : Eqv a b) : Eqv b a := fun s q => (h s q).symm
theorem Eqv.trans' {a b c : List Nat} (h : Eqv a b) (h2 : Eqv b c) : Eqv a c := fun s q => (h s q).trans (h2 s q)
theorem Eqv.app {a b c d : List Nat} (h : Eqv a b) (h2 : Eqv c d) : Eqv (a ++ c) (b ++ d) := fun s q => by rw [N_app, N_app, h s q, h2 _ (rd_N b q)]
theorem iv_cons (c : Nat) (w : List Nat) : iv (c :: w) = iv w ++ [swC c] := by simp [iv]
theorem iv_app (a b : List Nat) : iv (a ++ b) = iv b ++ iv a := by simp [iv]
theorem iv_iv (w : List Nat) : iv (iv w) = w := by
  unfold iv
  rw [← List.map_reverse, List.reverse_reverse, List.map_map]
  have : swC ∘ swC = id := funext fun c => sw_sw c
  rw [this, List.map_id]
theorem eqv_iv : ∀ w : List Nat, Eqv (w ++ iv w) []
  | [] => fun s _ => rfl
  | c :: w => fun s q => by
    rw [iv_cons, List.cons_append, ← List.append_assoc]
    show N ((w ++ iv w) ++ [swC c]) (push s c) = s
    rw [N_app, eqv_iv w _ (rd_push q c)]
    exact push2 q c
theorem eqv_iv' (w : List Nat) : Eqv (iv w ++ w) [] := by
  have := eqv_iv (iv w)
  rwa [iv_iv] at this
theorem eqv_pair {x y : Nat} (h : x = swC y) : Eqv [x, y] [] := fun s q => by
  show push (push s x) y = s
  rw [h]
  exact push2' q y
theorem eqv_stack : ∀ w : List Nat, Eqv (N w []).reverse w := by
  intro w
  have key : ∀ (w t : List Nat), Rd t → Eqv (N w t).reverse (t.reverse ++ w) := by
    intro w
    induction w with
    | nil => intro t _ s _; rw [List.append_nil]; rfl
    | cons c w ih =>
      intro t ht s q
      show N (N w (push t c)).reverse s = _
      rw [ih (push t c) (rd_push ht c) s q, N_app, N_app]
      show N w (N (push t c).reverse s) = N w (push (N t.reverse s) c)
      refine congrArg (N w) ?_
      cases t with
      | nil => rfl
      | cons x r =>
        by_cases hx : x = swC c
        · have e : push (x :: r) c = r := by simp [push, hx]
          rw [e, List.reverse_cons, N_app]
          show _ = push (push (N r.reverse s) x) c
          rw [hx, push2' (rd_N _ q)]
        · have e : push (x :: r) c = c :: x :: r := by simp [push, hx]
          rw [e, List.reverse_cons, N_app]
          rfl
  exact key w [] trivial
theorem eqv_red (w : List Nat) : Eqv (red w) w := eqv_stack w
theorem red_of_eqv {a b : List Nat} (h : Eqv a b) : red a = red b := by
  unfold red
  rw [h [] trivial]
theorem eqv_of_red {a b : List Nat} (h : red a = red b) : Eqv a b := (eqv_red a).symm'.trans' (h ▸ eqv_red b)
theorem N_rd : ∀ {t : List Nat}, Rd t → N t.reverse [] = t
  | [], _ => rfl
  | x :: r, h => by
    rw [List.reverse_cons, N_app, N_rd h.tail]
    cases r with
    | nil => rfl
    | cons y r =>
      have h1 : x ≠ swC y := h.1
      have : ¬ y = swC x := fun q => h1 (sw_eq.mp q)
      show push (y :: r) x = _
      simp [push, this]
theorem red_red (w : List Nat) : red (red w) = red w := by
  unfold red
  rw [N_rd (rd_N w (s := []) trivial)]
/-- no two letters side by side -/
def Np (w : List Nat) : Prop := ∀ k x y, w[k]? = some x → w[k + 1]? = some y → x ≠ swC y
theorem np_rd : ∀ {w : List Nat}, Np w → Rd w
  | [], _ => trivial
  | [_], _ => trivial
  | x :: y :: r, h => ⟨h 0 x y rfl rfl, np_rd fun k a b ha hb => h (k + 1) a b (by simpa using ha) (by simpa using hb)⟩
theorem rd_np : ∀ {w : List Nat}, Rd w → Np w
  | [], _ => fun k x y hx _ => by simp at hx
  | [_], _ => fun k x y hx hy => by simp at hy
  | a :: b :: r, h => fun k x y hx hy => match k with
    | 0 => by
      simp at hx hy
      subst hx; subst hy
      exact h.1
    | k + 1 => rd_np h.2 k x y (by simpa using hx) (by simpa using hy)
theorem np_rev {w : List Nat} (h : Np w) : Np w.reverse := fun k x y hx hy => by
  have hk : k + 1 < w.length := by
    have := (List.getElem?_eq_some_iff.mp hy).1
    simpa using this
  rw [List.getElem?_reverse (by omega)] at hx
  rw [List.getElem?_reverse (by omega)] at hy
  have := h (w.length - 1 - (k + 1)) y x hy (by rw [show w.length - 1 - (k + 1) + 1 = w.length - 1 - k by omega]; exact hx)
  exact fun q => this (sw_eq.mp q)
theorem red_np {w : List Nat} (h : Np w) : red w = w := by
  have := N_rd (np_rd (np_rev h))
  rw [List.reverse_reverse] at this
  unfold red
  rw [this, List.reverse_reverse]
theorem np_red (w : List Nat) : Np (red w) := np_rev (rd_np (rd_N w (s := []) trivial))
theorem red_iff {w : List Nat} : red w = w ↔ Np w := ⟨fun h => h ▸ np_red w, red_np⟩
/-- one pair taken out -/
theorem cut_eqv {w : List Nat} {k x y : Nat} (hx : w[k]? = some x) (hy : w[k + 1]? = some y) (h : x = swC y) : Eqv (w.take k ++ w.drop (k + 2)) w := by
  have h1 : k + 1 < w.length := (List.getElem?_eq_some_iff.mp hy).1
  have e : w = w.take k ++ ([x, y] ++ w.drop (k + 2)) := by
    have e1 : w.drop k = x :: w.drop (k + 1) := by
      obtain ⟨hlt, e⟩ := List.getElem?_eq_some_iff.mp hx
      rw [List.drop_eq_getElem_cons hlt, e]
    have e2 : w.drop (k + 1) = y :: w.drop (k + 2) := by
      obtain ⟨hlt, e⟩ := List.getElem?_eq_some_iff.mp hy
      rw [List.drop_eq_getElem_cons hlt, e]
    have := List.take_append_drop k w
    rw [e1, e2] at this
    exact this.symm
  have h2 : Eqv (w.take k ++ ([] ++ w.drop (k + 2))) (w.take k ++ ([x, y] ++ w.drop (k + 2))) := Eqv.app Eqv.rfl' (Eqv.app (eqv_pair h).symm' Eqv.rfl')
  rw [← e, List.nil_append] at h2
  exact h2
theorem mem_N : ∀ {w s : List Nat} {c : Nat}, c ∈ N w s → c ∈ w ∨ c ∈ s
  | [], s, c, h => .inr h
  | a :: w, s, c, h => by
    rcases mem_N (w := w) (s := push s a) h with h | h
    · exact .inl (List.mem_cons_of_mem _ h)
    · cases s with
      | nil => exact .inl (by rw [List.mem_singleton.mp h]; exact List.mem_cons_self)
      | cons x r =>
        unfold push at h
        simp only at h
        split at h
        · exact .inr (List.mem_cons_of_mem _ h)
        · rcases List.mem_cons.mp h with rfl | h
          · exact .inl List.mem_cons_self
          · exact .inr h
theorem mem_red {w : List Nat} {c : Nat} (h : c ∈ red w) : c ∈ w := (mem_N (List.mem_reverse.mp h)).elim id fun h => nomatch h
theorem len_N : ∀ (w s : List Nat), (N w s).length ≤ w.length + s.length
  | [], s => by simp [N]
  | a :: w, s => by
    have := len_N w (push s a)
    have h2 : (push s a).length ≤ s.length + 1 := by
      cases s with
      | nil => simp [push]
      | cons x r => unfold push; simp only; split <;> simp <;> omega
    show (N w (push s a)).length ≤ _
    rw [List.length_cons]
    omega
theorem len_red (w : List Nat) : (red w).length ≤ w.length := by
  have := len_N w []
  unfold red
  rw [List.length_reverse]
  simpa using this
/-! the core -/
def cond (w : List Nat) (k : Nat) : Bool := decide (2 * k + 1 < w.length) && decide (w.getD k 0 = swC (w.getD (w.length - 1 - k) 0))
def IsK (w : List Nat) (k : Nat) : Prop := (∀ j, j < k → cond w j = true) ∧ cond w k = false
theorem isK_uniq {w : List Nat} {k l : Nat} (h : IsK w k) (h2 : IsK w l) : k = l := by
  rcases Nat.lt_trichotomy k l with q | q | q
  · have := h2.1 k q; rw [h.2] at this; cases this
  · exact q
  · have := h.1 l q; rw [h2.2] at this; cases this
def kk (w : List Nat) : Nat → Nat → Nat
  | 0, k => k
  | n + 1, k => if cond w k then kk w n (k + 1) else k
theorem kk_is (w : List Nat) : ∀ (n k : Nat), (∀ j, j < k → cond w j = true) → w.length ≤ n + k → IsK w (kk w n k)
  | 0, k, h, hl => ⟨h, by
    show (decide (2 * k + 1 < w.length) && _) = false
    rw [decide_eq_false (by omega), Bool.false_and]⟩
  | n + 1, k, h, hl => by
    unfold kk
    split
    · rename_i hc
      refine kk_is w n (k + 1) (fun j hj => ?_) (by omega)
      rcases Nat.lt_or_ge j k with q | q
      · exact h j q
      · rw [show j = k by omega]; exact hc
    · rename_i hc
      exact ⟨h, by simpa using hc⟩
def K (w : List Nat) : Nat := kk w w.length 0
theorem isK (w : List Nat) : IsK w (K w) := kk_is w w.length 0 (fun j h => absurd h (Nat.not_lt_zero j)) (Nat.le_refl _)
theorem cond_len {w : List Nat} {k : Nat} (h : cond w k = true) : 2 * k + 1 < w.length := by
  have h : (decide (2 * k + 1 < w.length) && _) = true := h
  rw [Bool.and_eq_true] at h
  exact of_decide_eq_true h.1
theorem K_len {w : List Nat} {k : Nat} (h : ∀ j, j < k → cond w j = true) : 2 * k ≤ w.length ∧ (Np w → w ≠ [] → 2 * k < w.length) := by
  cases k with
  | zero =>
    refine ⟨Nat.zero_le _, fun _ hw => ?_⟩
    have := List.length_pos_iff.mpr hw
    omega
  | succ k =>
    have hc := h k (by omega)
    have := cond_len hc
    refine ⟨by omega, fun hn _ => ?_⟩
    by_cases e : w.length = 2 * (k + 1)
    · unfold cond at hc
      rw [Bool.and_eq_true] at hc
      have hj := of_decide_eq_true hc.2
      rw [show w.length - 1 - k = k + 1 by omega, List.getD_eq_getElem?_getD, List.getD_eq_getElem?_getD, List.getElem?_eq_getElem (by omega), List.getElem?_eq_getElem (by omega)] at hj
      exact absurd hj (hn k _ _ (List.getElem?_eq_getElem (by omega)) (List.getElem?_eq_getElem (by omega)))
    · omega
def mid (w : List Nat) (k : Nat) : List Nat := (w.drop k).take (w.length - 2 * k)
theorem split_k {w : List Nat} {k : Nat} (h : ∀ j, j < k → cond w j = true) : w = w.take k ++ mid w k ++ iv (w.take k) := by
  have hl := (K_len h).1
  have hm : (mid w k).length = w.length - 2 * k := by unfold mid; rw [List.length_take, List.length_drop]; omega
  have ht : (w.take k).length = k := by rw [List.length_take]; omega
  have hi : (iv (w.take k)).length = k := by unfold iv; rw [List.length_map, List.length_reverse, ht]
  refine List.ext_getElem (by rw [List.length_append, List.length_append, hm, ht, hi]; omega) fun i h1 h2 => ?_
  by_cases q : i < k
  · rw [List.getElem_append_left (by rw [List.length_append, ht]; omega), List.getElem_append_left (by omega), List.getElem_take]
  · by_cases q2 : i < w.length - k
    · rw [List.getElem_append_left (by rw [List.length_append, ht, hm]; omega), List.getElem_append_right (by omega)]
      unfold mid
      rw [List.getElem_take, List.getElem_drop]
      congr 1
      omega
    · rw [List.getElem_append_right (by rw [List.length_append, ht, hm]; omega)]
      unfold iv
      rw [List.getElem_map, List.getElem_reverse, List.getElem_take]
      have hj := h (w.length - 1 - i) (by omega)
      unfold cond at hj
      rw [Bool.and_eq_true] at hj
      have hj := of_decide_eq_true hj.2
      rw [show w.length - 1 - (w.length - 1 - i) = i by omega, List.getD_eq_getElem?_getD, List.getD_eq_getElem?_getD, List.getElem?_eq_getElem (by omega), List.getElem?_eq_getElem h1] at hj
      have hj := sw_eq.mp hj
      simp only [Option.getD_some] at hj
      rw [hj]
      refine congrArg swC ?_
      congr 1
      rw [List.length_append, ht, hm]
      omega
def coB (w : List Nat) : List Nat := (red w).take (K (red w))
def coI (w : List Nat) : List Nat := mid (red w) (K (red w))
theorem co_split (w : List Nat) : red w = coB w ++ coI w ++ iv (coB w) := split_k (isK (red w)).1
theorem co_ne {w : List Nat} (h : red w ≠ []) : coI w ≠ [] := by
  have := (K_len (isK (red w)).1).2 (np_red w) h
  have hm : (coI w).length = (red w).length - 2 * K (red w) := by unfold coI mid; rw [List.length_take, List.length_drop]; omega
  intro q
  rw [q] at hm
  simp at hm
  omega
end Sw.k15
namespace Sw.k15
theorem can1 (w : List Nat) {s : List Nat} (h : Rd s) : N (iv w) (N w s) = s := by rw [← N_app]; exact eqv_iv w s h
theorem can2 (w : List Nat) {s : List Nat} (h : Rd s) : N w (N (iv w) s) = s := by rw [← N_app]; exact eqv_iv' w s h
theorem Eqv.inv {a b : List Nat} (h : Eqv a b) : Eqv (iv a) (iv b) := fun s q => by
  have e1 : N (iv a) s = N (iv b) (N b (N (iv a) s)) := (can1 b (rd_N _ q)).symm
  rw [← h _ (rd_N _ q), can2 a q] at e1
  exact e1
theorem iv_mem {w : List Nat} {c : Nat} (h : c ∈ iv w) : ∃ d ∈ w, c = swC d := by
  obtain ⟨d, h1, h2⟩ := List.mem_map.mp h
  exact ⟨d, List.mem_reverse.mp h1, h2.symm⟩
theorem iv_len (w : List Nat) : (iv w).length = w.length := by simp [iv]
def rot (w : List Nat) (a : Nat) : List Nat := w.drop a ++ w.take a
/-- the one moved is the other -/
theorem moved_ok {u v : List Nat} {a b : Nat} (h : rot (coI u) a = rot (coI v) b) :
    red (red (coB u ++ (coI u).take a ++ iv ((coI v).take b) ++ iv (coB v))) = red (coB u ++ (coI u).take a ++ iv ((coI v).take b) ++ iv (coB v)) ∧
    red (iv (red (coB u ++ (coI u).take a ++ iv ((coI v).take b) ++ iv (coB v))) ++ u ++ red (coB u ++ (coI u).take a ++ iv ((coI v).take b) ++ iv (coB v))) = red v := by
  refine ⟨red_red _, red_of_eqv ?_⟩
  have hu : Eqv u (coB u ++ coI u ++ iv (coB u)) := (co_split u) ▸ (eqv_red u).symm'
  have hv : Eqv v (coB v ++ coI v ++ iv (coB v)) := (co_split v) ▸ (eqv_red v).symm'
  generalize coB u = B at *
  generalize coB v = O at *
  generalize coI u = I at *
  generalize coI v = J at *
  have hI : I = I.take a ++ I.drop a := (List.take_append_drop a I).symm
  have hJ : J = J.take b ++ J.drop b := (List.take_append_drop b J).symm
  replace h : I.drop a ++ I.take a = J.drop b ++ J.take b := h
  generalize I.take a = t at *
  generalize I.drop a = r at *
  generalize J.take b = t2 at *
  generalize J.drop b = r2 at *
  subst hI; subst hJ
  have hm := eqv_red (B ++ t ++ iv t2 ++ iv O)
  have hm2 := hm.inv
  generalize red (B ++ t ++ iv t2 ++ iv O) = m at *
  intro s q
  rw [N_app, N_app, hm2 s q, hu _ (rd_N _ q), hm _ (rd_N _ (rd_N _ q)), hv s q]
  simp only [iv_app, iv_iv, N_app]
  have h3 : ∀ x, N t (N r x) = N t2 (N r2 x) := fun x => by rw [← N_app, ← N_app, h]
  have d1 : Rd (N O s) := rd_N _ q
  have d2 : Rd (N t2 (N O s)) := rd_N _ d1
  have d3 : Rd (N (iv t) (N t2 (N O s))) := rd_N _ d2
  rw [can2 B d3, can2 t d2]
  have d4 : Rd (N r (N t2 (N O s))) := rd_N _ d2
  rw [can2 B d4]
  rw [h3]
  have d6 : Rd (N r2 (N t2 (N O s))) := rd_N _ d2
  rw [can1 t2 d6]
/-! powers -/
def rpt (w : List Nat) (n : Nat) : List Nat := (List.replicate n w).flatten
theorem rpt_succ (w : List Nat) (n : Nat) : rpt w (n + 1) = w ++ rpt w n := by simp [rpt, List.replicate_succ]
theorem eqv_pow (A r x : List Nat) (hx : Eqv x (A ++ r ++ iv A)) : ∀ t : Nat, Eqv (rpt x t) (A ++ rpt r t ++ iv A)
  | 0 => by
    show Eqv [] (A ++ [] ++ iv A)
    rw [List.append_nil]
    exact (eqv_iv A).symm'
  | t + 1 => fun s q => by
    rw [rpt_succ, rpt_succ, N_app, hx s q, eqv_pow A r x hx t _ (rd_N _ q)]
    simp only [N_app]
    have d : Rd (N r (N A s)) := rd_N _ (rd_N _ q)
    rw [can2 A d]
theorem pow_ok {w r : List Nat} {t : Nat} (hw : red w = w) (h : rpt r t = coI w) : red (rpt (red (coB w ++ r ++ iv (coB w))) t) = w := by
  have h1 := eqv_pow (coB w) r _ (eqv_red (coB w ++ r ++ iv (coB w))) t
  rw [red_of_eqv h1, h, ← co_split, red_red, hw]
/-! the root -/
def isRoot (w : List Nat) (s : Nat) : Bool := decide (w.length % s = 0) && decide (rpt (w.take s) (w.length / s) = w)
theorem root_full {w : List Nat} (h : w ≠ []) : isRoot w w.length = true := by
  have hl := List.length_pos_iff.mpr h
  unfold isRoot
  rw [Nat.mod_self, Nat.div_self hl, List.take_length]
  simp [rpt]
def times (w : List Nat) (k : Nat) : Bool := decide (w.length % k = 0) && decide (rpt (w.take (w.length / k)) k = w)
theorem times_root {w : List Nat} {k : Nat} (hk : 0 < k) (hn : w ≠ []) (h : times w k = true) : isRoot w (w.length / k) = true ∧ w.length / (w.length / k) = k ∧ 0 < w.length / k := by
  have hl := List.length_pos_iff.mpr hn
  unfold times at h
  rw [Bool.and_eq_true] at h
  have h1 := of_decide_eq_true h.1
  have h2 := of_decide_eq_true h.2
  obtain ⟨q, hq⟩ := Nat.dvd_of_mod_eq_zero h1
  have hd : w.length / k = q := by rw [hq, Nat.mul_div_cancel_left _ hk]
  have hq0 : 0 < q := by
    rcases Nat.eq_zero_or_pos q with e | e
    · rw [e, Nat.mul_zero] at hq; omega
    · exact e
  have hd2 : w.length / q = k := by rw [hq, Nat.mul_div_cancel _ hq0]
  rw [hd] at h2 ⊢
  refine ⟨?_, hd2, hq0⟩
  unfold isRoot
  rw [hd2, h2, show w.length % q = 0 by rw [hq]; exact Nat.mul_mod_left _ _]
  simp
theorem root_times {w : List Nat} {s : Nat} (hs : 0 < s) (hn : w ≠ []) (h : isRoot w s = true) : times w (w.length / s) = true ∧ w.length / (w.length / s) = s ∧ 0 < w.length / s := by
  have hl := List.length_pos_iff.mpr hn
  unfold isRoot at h
  rw [Bool.and_eq_true] at h
  have h1 := of_decide_eq_true h.1
  have h2 := of_decide_eq_true h.2
  obtain ⟨q, hq⟩ := Nat.dvd_of_mod_eq_zero h1
  have hd : w.length / s = q := by rw [hq, Nat.mul_div_cancel_left _ hs]
  have hq0 : 0 < q := by
    rcases Nat.eq_zero_or_pos q with e | e
    · rw [e, Nat.mul_zero] at hq; omega
    · exact e
  have hd2 : w.length / q = s := by rw [hq, Nat.mul_div_cancel _ hq0]
  rw [hd] at h2 ⊢
  refine ⟨?_, hd2, hq0⟩
  unfold times
  rw [hd2, h2, show w.length % q = 0 by rw [hq]; exact Nat.mul_mod_left _ _]
  simp
/-- the first root is the one with the most times -/
theorem root_max {w : List Nat} {s : Nat} (hn : w ≠ []) (hs : 0 < s) (h : isRoot w s = true) (hf : ∀ r, 0 < r → r < s → isRoot w r = false) :
    times w (w.length / s) = true ∧ w.length / (w.length / s) = s ∧ 0 < w.length / s ∧ ∀ k, 0 < k → times w k = true → k ≤ w.length / s := by
  obtain ⟨h1, h2, h3⟩ := root_times hs hn h
  refine ⟨h1, h2, h3, fun k hk ht => ?_⟩
  obtain ⟨g1, g2, g3⟩ := times_root hk hn ht
  have : s ≤ w.length / k := by
    rcases Nat.lt_or_ge (w.length / k) s with q | q
    · have := hf _ g3 q; rw [g1] at this; cases this
    · exact q
  rw [← g2]
  exact Nat.div_le_div_left this hs
/-! rotations -/
def rots (w : List Nat) : List (List Nat) := (List.range (max 1 w.length)).map (rot w)
def IsLeast (w s : List Nat) : Prop := s ∈ rots w ∧ ∀ r ∈ rots w, ¬ r < s
theorem least_uniq {w s t : List Nat} (h : IsLeast w s) (h2 : IsLeast w t) : s = t := by
  have a := h.2 t h2.1
  have b := h2.2 s h.1
  exact List.le_antisymm (List.not_lt.mp a) (List.not_lt.mp b)
end Sw.k15
namespace Sw.k15
theorem c_start (k : Nat) (ns : List Int) (hl : ns.length ≤ 63) : ∃ xs, callF prog G (k + 1) 11 [.imm (.lst (ns.map P.int))] = some (.lst xs, [.imm (.lst (ns.map P.int))]) ∧ WC xs := by
  refine ⟨_, wp_is (call_wp (fn := f__law_start) rfl rfl ?_), ns, 0, 0, 0, rfl, Nat.zero_le _⟩
  have e : cutP (ns.map P.int) none (some 63) = ns.map P.int := by
    rw [show (63 : Int) = ((63 : Nat) : Int) from rfl, cut_0n, List.take_of_length_le (by simpa using hl)]
  simp -implicitDefEqProofs [f__law_start, b__law_start, e]
  refine wp_comp (fun i acc e => acc = (ns.take i).map P.int ∧ ∃ x, e = [some (.imm (.lst (ns.map P.int))), x]) ⟨by simp, none, rfl⟩ (fun i p acc e hp hi => ?_) (fun acc e hi => ?_)
  · obtain ⟨rfl, x, rfl⟩ := hi
    obtain ⟨n, hn, rfl⟩ : ∃ n, ns[i]? = some n ∧ p = .int n := by
      rw [List.getElem?_map] at hp
      cases q : ns[i]? with
      | none => rw [q] at hp; cases hp
      | some n => rw [q] at hp; cases hp; exact ⟨n, rfl, rfl⟩
    have hlen : ((ns.take i).map P.int).length < line := lt_lineN (by simp; omega)
    simp only [List.length_map, List.length_take] at hlen
    simp -implicitDefEqProofs [stepCc, hlen]
    simp [List.take_add_one, List.getElem?_map, hn]
  · obtain ⟨rfl, x, rfl⟩ := hi
    rw [List.length_map, List.take_of_length_le (Nat.le_refl _)]
    have h5 : (5 : Nat) ≤ line := le_lineN (by omega)
    simp -implicitDefEqProofs [h5]
theorem c_fill (k : Nat) (xs : List P) (h : WC xs) : ∃ (xs' : List P) (n : Nat), callF prog G (k + 1) 12 [.lst xs] = some (.imm (.int n), [.lst xs']) ∧ WC xs' := by
  obtain ⟨ns, i, pool, t, rfl, hi⟩ := h
  have key : ∃ r, callF prog G (k + 1) 12 [.lst [.lst (ns.map P.int), .int i, .int pool, .int t, .int 20]] = some r ∧ ∃ (xs' : List P) (n : Nat), r = (.imm (.int n), [.lst xs']) ∧ WC xs' := by
    refine wp_all fun R hR => call_wp (fn := f__law_fill) rfl rfl ?_
    simp only [f__law_fill, b__law_fill]
    refine wp_seq (fun r => r = (.nx, [some (.lst [.lst (ns.map P.int), .int i, .int pool, .int (t + 1), .int 20]), none])) (fun R hR => ?_) fun r hr => ?_
    · simp -implicitDefEqProofs [atC, ixC]
      exact hR _ rfl
    subst hr
    refine wp_seq (fun r => ∃ z : Int, r = (.nx, [some (.lst [.lst (ns.map P.int), .int i, .int pool, .int (t + 1), .int 20]), some (.imm (.int z))])) (fun R hR => ?_) fun r hr => ?_
    · simp -implicitDefEqProofs [atC, ixC, so_mul, mulK]
      exact hR _ ⟨_, rfl⟩
    obtain ⟨z, rfl⟩ := hr
    refine wp_seq (fun r => (∃ (z : Nat) (j : Nat), j ≤ ns.length ∧ r = (.rt (.imm (.int z)), [some (.lst [.lst (ns.map P.int), .int j, .int pool, .int (t + 1), .int 20]), some (.imm (.int z))])) ∨
      ∃ (z : Int) (j : Nat), j ≤ ns.length ∧ r = (.nx, [some (.lst [.lst (ns.map P.int), .int j, .int pool, .int (t + 1), .int 20]), some (.imm (.int z))])) (fun R hR => ?_) fun r hr => ?_
    · by_cases hlt : i < ns.length
      · have hat : atP (ns.map P.int) (i : Int) = some (.int ns[i]) := by
          rw [at_nat (by simpa using hlt)]
          simp [hlt]
        have hpw : opSem .pow [.imm (.int 10), .imm (.int 18)] = some (.imm (.int 1000000000000000000)) := by
          simp only [opSem, int2]
          rw [if_pos (by decide)]
          rfl
        simp -implicitDefEqProofs [atC, ixC, hlt, hat]
        by_cases hneg : ns[i] < 0
        · simp -implicitDefEqProofs [hneg, hpw]
          by_cases hbig : (1000000000000000000 : Int) ≤ -1 - ns[i]
          · simp -implicitDefEqProofs [hbig]
            obtain ⟨z, hz⟩ := Int.eq_ofNat_of_zero_le (show 0 ≤ -1 - ns[i] by omega)
            exact hR _ (.inl ⟨z, i + 1, by omega, by rw [hz] <;> rfl⟩)
          · simp -implicitDefEqProofs [hbig]
            exact hR _ (.inr ⟨_, i + 1, by omega, rfl⟩)
        · simp -implicitDefEqProofs [hneg, hpw]
          by_cases hbig : (1000000000000000000 : Int) ≤ ns[i]
          · simp -implicitDefEqProofs [hbig]
            obtain ⟨z, hz⟩ := Int.eq_ofNat_of_zero_le (show 0 ≤ ns[i] by omega)
            exact hR _ (.inl ⟨z, i + 1, by omega, by rw [hz] <;> rfl⟩)
          · simp -implicitDefEqProofs [hbig]
            exact hR _ (.inr ⟨_, i + 1, by omega, rfl⟩)
      · simp -implicitDefEqProofs [atC, ixC, hlt]
        exact hR _ (.inr ⟨_, i, hi, rfl⟩)
    rcases hr with ⟨z, j, hj, rfl⟩ | ⟨z, j, hj, rfl⟩
    · simp -implicitDefEqProofs [asgTs, asgT]
      exact hR _ ⟨_, _, rfl, ns, j, pool, t + 1, rfl, hj⟩
    refine wp_seq (fun r => ∃ z : Int, r = (.nx, [some (.lst [.lst (ns.map P.int), .int j, .int pool, .int (t + 1), .int 20]), some (.imm (.int z))])) (fun R hR => ?_) fun r hr => ?_
    · by_cases he : ns = []
      · simp -implicitDefEqProofs [atC, ixC, he]
        exact hR _ ⟨_, by rw [he] <;> rfl⟩
      · have hm : ns.map P.int ≠ [] := by simpa using he
        have hl : 0 < ns.length := List.length_pos_iff.mpr he
        have hat : atP (ns.map P.int) (-1) = some (.int (ns[ns.length - 1]'(by omega))) := by
          rw [at_last hm]
          simp [show ns.length - 1 < ns.length by omega]
        by_cases hge : ns.length ≤ j
        · simp -implicitDefEqProofs [atC, ixC, he, hge, hat, so_mod]
          exact hR _ ⟨_, rfl⟩
        · simp -implicitDefEqProofs [atC, ixC, he, hge]
          exact hR _ ⟨_, rfl⟩
    obtain ⟨z, rfl⟩ := hr
    simp -implicitDefEqProofs [atC, ixC, so_mul, mulK, mulM, so_mod, so_fdiv, asgTs, asgT]
    obtain ⟨n, hn⟩ := fill_end ((z * 48271 + (↑t + 1) * 69621).fmod 2147483647) t
    exact hR _ ⟨_, n, by rw [hn] <;> rfl, ns, j, pool, t + 1, rfl, hj⟩
  obtain ⟨r, e, xs', n, rfl, hw⟩ := key
  exact ⟨xs', n, e, hw⟩
theorem c_take (k : Nat) (xs : List P) (m : Nat) (h : WC xs) (hm : 0 < m) (hm2 : m < 1000000) : ∃ (xs' : List P) (d : Nat), callF prog G (k + 2) 13 [.lst xs, .imm (.int m)] = some (.imm (.int d), [.lst xs', .imm (.int m)]) ∧ WC xs' ∧ d < m := by
  obtain ⟨ns, i, pool, t, rfl, hi⟩ := h
  have key : ∃ r, callF prog G (k + 1 + 1) 13 [.lst [.lst (ns.map P.int), .int i, .int pool, .int t, .int 20], .imm (.int m)] = some r ∧ ∃ (xs' : List P) (d : Nat), r = (.imm (.int d), [.lst xs', .imm (.int m)]) ∧ WC xs' ∧ d < m := by
    refine wp_all fun R hR => call_wp (fn := f__law_take) rfl rfl ?_
    simp only [f__law_take, b__law_take]
    refine wp_seq (fun r => ∃ (ns : List Int) (i pool t : Nat), i ≤ ns.length ∧ r = (.nx, [some (.lst [.lst (ns.map P.int), .int i, .int pool, .int t, .int 20]), some (.imm (.int m)), none])) (fun R hR => ?_) fun r hr => ?_
    · by_cases hlt : pool < m
      · obtain ⟨xs', n, e, ns', i', pool', t', rfl, hi'⟩ := c_fill k [.lst (ns.map P.int), .int i, .int pool, .int t, .int 20] ⟨ns, i, pool, t, rfl, hi⟩
        simp -implicitDefEqProofs [atC, ixC, hlt, e]
        exact hR _ ⟨ns', i', n, t', hi', rfl⟩
      · simp -implicitDefEqProofs [atC, ixC, hlt]
        exact hR _ ⟨ns, i, pool, t, hi, rfl⟩
    obtain ⟨ns, i, pool, t, hi, rfl⟩ := hr
    have h0 : ((m : Nat) : Int) ≠ 0 := by omega
    have e1 : ((pool : Nat) : Int).fmod (m : Int) = ((pool % m : Nat) : Int) := by
      rw [Int.fmod_eq_emod_of_nonneg _ (by omega)]
      exact (Int.natCast_emod pool m).symm
    have e2 : ((pool : Nat) : Int).fdiv (m : Int) = ((pool / m : Nat) : Int) := by
      rw [Int.fdiv_eq_ediv_of_nonneg _ (by omega)]
      exact (Int.natCast_ediv pool m).symm
    have h1 : ((m : Nat) : Int) ≠ 0 ∧ ((m : Nat) : Int).natAbs < 1073741824 := ⟨h0, by omega⟩
    simp -implicitDefEqProofs [atC, ixC, so_mod h0, so_fdiv h1, asgTs, asgT]
    exact hR _ ⟨_, pool % m, by rw [e1], ⟨ns, i, pool / m, t, by rw [e2], hi⟩, Nat.mod_lt _ hm⟩
  obtain ⟨r, e, xs', d, rfl, hw⟩ := key
  exact ⟨xs', d, e, hw⟩
theorem al_flat (k : Nat) (v : P) (h : AL 0 v) : callF prog G (k + 1) 14 [.imm v, .imm v] = some (.imm (.bl true), [.imm v, .imm v]) := by
  refine wp_is (call_wp (fn := f__law_alike) rfl rfl ?_)
  cases v <;> first
    | exact h.elim
    | simp -implicitDefEqProofs [f__law_alike, b__law_alike, isTy, so_neB, asgTs, asgT]
theorem c_alike : ∀ (d k : Nat) (v : P), AL d v → callF prog G (k + 1 + d) 14 [.imm v, .imm v] = some (.imm (.bl true), [.imm v, .imm v]) := by
  intro d
  induction d with
  | zero => exact fun k v h => al_flat k v h
  | succ d ih =>
    intro k v h
    by_cases ht : ∃ ps, v = .tup ps
    · obtain ⟨ps, rfl⟩ := ht
      obtain ⟨hl, hp⟩ := h
      show callF prog G (k + 1 + d + 1) 14 _ = _
      refine wp_is (call_wp (fn := f__law_alike) rfl rfl ?_)
      simp -implicitDefEqProofs [f__law_alike, b__law_alike, isTy, it_rng1 (show ps.length ≤ 1000000 by omega)]
      refine wp_comp (fun i acc e => acc = (List.replicate i true).map P.bl ∧ e = [some (.imm (.tup ps)), some (.imm (.tup ps)), none]) ⟨rfl, rfl⟩ (fun i p acc e hp2 hi => ?_) (fun acc e hi => ?_)
      · obtain ⟨rfl, rfl⟩ := hi
        obtain ⟨hil, rfl⟩ := rng_get hp2
        have hat : atP ps (i : Int) = some ps[i] := by rw [at_nat hil, List.getElem?_eq_getElem hil]
        have hih := ih k ps[i] (hp _ (List.getElem_mem hil))
        have hlen : ((List.replicate i true).map P.bl).length < line := lt_lineN (by simp; omega)
        simp only [List.length_map, List.length_replicate] at hlen
        simp -implicitDefEqProofs [-List.map_replicate, stepCc, hat, hih, hlen]
        rw [List.replicate_succ', List.map_append] <;> rfl
      · obtain ⟨rfl, rfl⟩ := hi
        simp -implicitDefEqProofs [-List.map_replicate, so_all, all_true, asgTs, asgT]
    · have h0 : AL 0 v := by cases v <;> first | trivial | exact h.elim | exact absurd ⟨_, rfl⟩ ht
      have := al_flat (k + (d + 1)) v h0
      rwa [show k + (d + 1) + 1 = k + 1 + (d + 1) by omega] at this
end Sw.k15
namespace Sw.k15
def A6 : List Nat := [97, 98, 99, 65, 66, 67]
def Lt (w : List Nat) : Prop := ∀ c ∈ w, c ∈ A6
theorem A6_lt {c : Nat} (h : c ∈ A6) : c < 128 := by
  simp only [A6, List.mem_cons, List.not_mem_nil, or_false] at h
  omega
theorem A6_sw {c : Nat} (h : c ∈ A6) : swC c ∈ A6 := by
  simp only [A6, List.mem_cons, List.not_mem_nil, or_false] at h
  rcases h with rfl | rfl | rfl | rfl | rfl | rfl <;> decide
theorem Lt.as {w : List Nat} (h : Lt w) : ∀ c ∈ w, c < 128 := fun c hc => A6_lt (h c hc)
theorem Lt.app {a b : List Nat} (h : Lt a) (h2 : Lt b) : Lt (a ++ b) := fun c hc => (List.mem_append.mp hc).elim (h c) (h2 c)
theorem Lt.iv {w : List Nat} (h : Lt w) : Lt (iv w) := fun c hc => by
  obtain ⟨d, h1, rfl⟩ := iv_mem hc
  exact A6_sw (h d h1)
theorem Lt.red {w : List Nat} (h : Lt w) : Lt (red w) := fun c hc => h c (mem_red hc)
theorem Lt.take {w : List Nat} (h : Lt w) (n : Nat) : Lt (w.take n) := fun c hc => h c (List.mem_of_mem_take hc)
theorem Lt.drop {w : List Nat} (h : Lt w) (n : Nat) : Lt (w.drop n) := fun c hc => h c (List.mem_of_mem_drop hc)
theorem c_word (k : Nat) (xs : List P) (m : Nat) (hw : WC xs) (hm : m ≤ 500) : ∃ (xs' : List P) (w : List Nat), callF prog G (k + 3) 15 [.lst xs, .imm (.int m)] = some (.imm (.str w), [.lst xs', .imm (.int m)]) ∧ WC xs' ∧ w.length ≤ m ∧ Lt w := by
  have key : ∃ r, callF prog G (k + 2 + 1) 15 [.lst xs, .imm (.int m)] = some r ∧ ∃ (xs' : List P) (w : List Nat), r = (.imm (.str w), [.lst xs', .imm (.int m)]) ∧ WC xs' ∧ w.length ≤ m ∧ Lt w := by
    refine wp_all fun R hR => call_wp (fn := f__law_word) rfl rfl ?_
    have hAl : A6.length ≤ line := le_lineN (by decide)
    have hA6 : ([97, 98, 99, 65, 66, 67] : List Nat) = A6 := rfl
    obtain ⟨ys, n, e1, hy, hn⟩ := c_take k xs (m + 1) hw (by omega) (by omega)
    have e1 : callF prog G (k + 2) 13 [.lst xs, .imm (.int ((m : Int) + 1))] = some (.imm (.int n), [.lst ys, .imm (.int ((m : Int) + 1))]) := e1
    simp -implicitDefEqProofs [f__law_word, b__law_word, rcvOk, e1, it_rng1 (show n ≤ 1000000 by omega), hA6]
    refine wp_comp (fun i acc e => ∃ (zs : List P) (w : List Nat), WC zs ∧ w.length = i ∧ Lt w ∧ acc = (w.map fun c => [c]).map P.str ∧ e = [some (.lst zs), some (.imm (.int m)), none]) ⟨ys, [], hy, rfl, fun c h => (nomatch h), rfl, rfl⟩ (fun i p acc e hp hi => ?_) (fun acc e hi => ?_)
    · obtain ⟨zs, w, hz, hwl, hwm, rfl, rfl⟩ := hi
      obtain ⟨hin, rfl⟩ := rng_get hp
      obtain ⟨us, d, e2, hu, hd⟩ := c_take k zs 6 hz (by omega) (by omega)
      have e2 : callF prog G (k + 2) 13 [.lst zs, .imm (.int 6)] = some (.imm (.int d), [.lst us, .imm (.int 6)]) := e2
      have hlen : ((w.map fun c => [c]).map P.str).length < line := lt_lineN (by simp; omega)
      simp only [List.length_map] at hlen
      have hd' : d < A6.length := hd
      have hat : atP A6 (d : Int) = some A6[d] := by rw [at_nat hd', List.getElem?_eq_getElem hd']
      have hmem : A6[d] ∈ A6 := List.getElem_mem hd'
      generalize A6[d] = c at *
      simp -implicitDefEqProofs [-List.map_map, stepCc, e2, so_idxS hAl, hat, hlen]
      refine ⟨us, hu, w ++ [c], by simp [hwl], fun c' h => ?_, by simp, rfl⟩
      rcases List.mem_append.mp h with h | h
      · exact hwm c' h
      · rw [List.mem_singleton.mp h]; exact hmem
    · obtain ⟨zs, w, hz, hwl, hwm, rfl, rfl⟩ := hi
      rw [List.length_map, List.length_range] at hwl
      have hj := so_joinC (w := w) (le_lineN (by omega))
      simp -implicitDefEqProofs [-List.map_map, hj, asgTs, asgT]
      exact hR _ ⟨zs, w, rfl, hz, by omega, hwm⟩
  obtain ⟨r, e, xs', w, rfl, h1, h2, h3⟩ := key
  exact ⟨xs', w, e, h1, h2, h3⟩
theorem c_inv (k : Nat) (w : List Nat) (h : Lt w) (hl : w.length ≤ 5000) : callF prog G (k + 1) 4 [.imm (.str w)] = some (.imm (.str (iv w)), [.imm (.str w)]) := by
  refine wp_is (call_wp (fn := f_inverse_word) rfl rfl ?_)
  have h1 := so_revS (s := w) (le_lineN (by omega))
  have h2 := so_swap (s := w.reverse) (fun c hc => h.as c (List.mem_reverse.mp hc)) (by simp; omega)
  have e : w.reverse.map swC = iv w := rfl
  rw [e] at h2
  generalize w.reverse = rw' at *
  simp -implicitDefEqProofs [f_inverse_word, b_inverse_word, rcvOk, h1, h2, asgTs, asgT]
theorem N_take {w : List Nat} {i c : Nat} (h : w[i]? = some c) (s : List Nat) : N (w.take (i + 1)) s = push (N (w.take i) s) c := by
  rw [List.take_add_one, h, N_app] <;> rfl
theorem c_red (k : Nat) (w : List Nat) (h : Lt w) (hl : w.length ≤ 5000) : callF prog G (k + 1) 5 [.imm (.str w)] = some (.imm (.str (red w)), [.imm (.str w)]) := by
  refine wp_is (call_wp (fn := f_reduced) rfl rfl ?_)
  simp -implicitDefEqProofs [f_reduced, b_reduced, rcvOk]
  refine wp_for (fun i e => ∃ (x : Option D), i ≤ w.length ∧ e = [some (.imm (.str w)), some (.imm (.str (N (w.take i) []).reverse)), x]) ⟨none, Nat.zero_le _, rfl⟩ (fun i p e hp hi => ?_) (fun e hi => ?_)
  · obtain ⟨x, hil, rfl⟩ := hi
    obtain ⟨c, hc, rfl⟩ := chr_get hp
    have hlt : i < w.length := (List.getElem?_eq_some_iff.mp hc).1
    have hcl : c < 128 := h.as c (List.mem_of_getElem? hc)
    have hsw : opSem .swapcase [.imm (.str [c])] = some (.imm (.str [swC c])) := so_swap (s := [c]) (fun d hd => by rw [List.mem_singleton.mp hd]; exact hcl) (by simp)
    have hn := len_N (w.take i) []
    rw [List.length_take] at hn
    simp only [List.length_nil] at hn
    have hpush := N_take hc []
    generalize N (w.take i) [] = s at *
    generalize N (w.take (i + 1)) [] = s2 at *
    subst hpush
    cases s with
    | nil =>
      have ha : augSem .add (.imm (.str [])) (.imm (.str [c])) = some (.imm (.str [c])) := au_str (le_lineN (by simp))
      simp -implicitDefEqProofs [stepFf, hsw, ha]
      exact ⟨by omega, rfl⟩
    | cons y r =>
      have hrl : (y :: r).reverse.length ≤ line := le_lineN (by rw [List.length_reverse]; omega)
      have hne : (y :: r).reverse ≠ [] := by simp
      have hat : atP (y :: r).reverse (-1) = some y := by
        rw [at_last hne]
        simp
      have hidx := so_idxS (s := (y :: r).reverse) (a := -1) hrl
      rw [hat] at hidx
      have hidx : opSem .idx [.imm (.str (y :: r).reverse), .imm (.int (-1))] = some (.imm (.str [y])) := hidx
      have hcut : slcSem (.imm (.str (y :: r).reverse)) none (some (-1)) = some (.imm (.str r.reverse)) := by
        rw [so_slcS hrl, cut_init]
        simp
      have ha : augSem .add (.imm (.str (y :: r).reverse)) (.imm (.str [c])) = some (.imm (.str (c :: y :: r).reverse)) := by
        have := au_str (s := (y :: r).reverse) (t := [c]) (le_lineN (by simp at hn ⊢; omega))
        rw [this]
        simp
      by_cases hy : y = swC c
      · have e : push (y :: r) c = r := by simp [push, hy]
        rw [e]
        generalize (y :: r).reverse = Y at *
        simp -implicitDefEqProofs [stepFf, rcvOk, hsw, hne, hidx, hy, hcut]
        exact hlt
      · have e : push (y :: r) c = c :: y :: r := by simp [push, hy]
        rw [e]
        generalize (y :: r).reverse = Y at *
        generalize (c :: y :: r).reverse = Z at *
        simp -implicitDefEqProofs [stepFf, rcvOk, hsw, hne, hidx, hy, ha]
        exact hlt
  · obtain ⟨x, hil, rfl⟩ := hi
    rw [List.length_map, List.take_length]
    have e : (N w []).reverse = red w := rfl
    rw [e]
    simp -implicitDefEqProofs [asgTs, asgT]
theorem c_prod (k : Nat) (u v : List Nat) (h : Lt u) (h2 : Lt v) (hl : u.length + v.length ≤ 5000) : callF prog G (k + 2) 6 [.imm (.str u), .imm (.str v)] = some (.imm (.str (red (u ++ v))), [.imm (.str u), .imm (.str v)]) := by
  refine wp_is (call_wp (fn := f_product) rfl rfl ?_)
  have e := c_red k (u ++ v) (h.app h2) (by rw [List.length_append]; exact hl)
  have ha := so_adds (s := u) (t := v) (le_lineN (by omega))
  generalize u ++ v = uv at *
  simp -implicitDefEqProofs [f_product, b_product, ha, e, asgTs, asgT]
theorem c_turned (k c : Nat) (h : c < 128) : callF prog G (k + 1) 16 [.imm (.str [c])] = some (.imm (.str [swC c]), [.imm (.str [c])]) := by
  refine wp_is (call_wp (fn := f__law_turned) rfl rfl ?_)
  have hs : ∀ d ∈ [c], d < 128 := fun d hd => by rw [List.mem_singleton.mp hd]; exact h
  have h1 : opSem .lower [.imm (.str [c])] = some (.imm (.str [loC c])) := so_lower hs (by simp)
  have h2 : opSem .upper [.imm (.str [c])] = some (.imm (.str [upC c])) := so_upper hs (by simp)
  have ht := tc_sw c
  by_cases hc : c = loC c
  · rw [if_pos hc] at ht
    have hd : decide (c = loC c) = true := decide_eq_true hc
    have hd2 : (c = loC c) = True := eq_true hc
    rw [← ht]
    generalize loC c = l at *
    generalize upC c = m at *
    simp -implicitDefEqProofs [f__law_turned, b__law_turned, rcvOk, h1, h2, hd2, asgTs, asgT]
  · rw [if_neg hc] at ht
    have hd2 : (c = loC c) = False := eq_false hc
    rw [← ht]
    generalize loC c = l at *
    generalize upC c = m at *
    simp -implicitDefEqProofs [f__law_turned, b__law_turned, rcvOk, h1, h2, hd2, asgTs, asgT]
theorem c_linv (k : Nat) (w : List Nat) (h : Lt w) (hl : w.length ≤ 5000) : callF prog G (k + 2) 18 [.imm (.str w)] = some (.imm (.str (iv w)), [.imm (.str w)]) := by
  refine wp_is (call_wp (fn := f__law_inverse) rfl rfl ?_)
  have h1 := so_revS (s := w) (le_lineN (by omega))
  have hrm : ∀ c ∈ w.reverse, c < 128 := fun c hc => h.as c (List.mem_reverse.mp hc)
  have hrl : w.reverse.length ≤ 5000 := by simp; omega
  have e : w.reverse.map swC = iv w := rfl
  rw [← e]
  generalize w.reverse = v at *
  simp -implicitDefEqProofs [f__law_inverse, b__law_inverse, rcvOk, h1]
  refine wp_comp (fun i acc e => acc = (((v.take i).map swC).map fun c => [c]).map P.str ∧ ∃ x, e = [some (.imm (.str w)), x]) ⟨rfl, none, rfl⟩ (fun i p acc e hp hi => ?_) (fun acc e hi => ?_)
  · obtain ⟨rfl, x, rfl⟩ := hi
    obtain ⟨c, hc, rfl⟩ := chr_get hp
    have e2 := c_turned k c (hrm c (List.mem_of_getElem? hc))
    have hlen : ((((v.take i).map swC).map fun c => [c]).map P.str).length < line := lt_lineN (by simp; omega)
    have hstep : (((v.take (i + 1)).map swC).map fun c => [c]).map P.str = ((((v.take i).map swC).map fun c => [c]).map P.str) ++ [.str [swC c]] := by
      rw [List.take_add_one, hc]
      simp
    rw [hstep]
    generalize ((((v.take i).map swC).map fun c => [c]).map P.str) = acc at *
    simp -implicitDefEqProofs [stepCc, e2, hlen]
  · obtain ⟨rfl, x, rfl⟩ := hi
    rw [List.length_map, List.take_length]
    have hj := so_joinC (w := v.map swC) (le_lineN (by rw [List.length_map]; omega))
    generalize ((v.map swC).map fun c => [c]).map P.str = acc at *
    simp -implicitDefEqProofs [hj, asgTs, asgT]
end Sw.k15
namespace Sw.k15
theorem it_rng1i {n : Int} (h : -1000000 ≤ n ∧ n ≤ 1000000) : items .rng1 [.imm (.int n)] = some ((List.range n.toNat).map fun k : Nat => P.int (k : Int)) := by
  have : small62 n = true := by
    unfold small62
    exact decide_eq_true (by have e : (2:Int)^62 = 4611686018427387904 := by decide
                             omega)
  simp only [items, this, if_true]
theorem c_lred (k : Nat) (w : List Nat) (h : Lt w) (hl : w.length ≤ 5000) : callF prog G (k + 2) 17 [.imm (.str w)] = some (.imm (.str (red w)), [.imm (.str w)]) := by
  refine wp_is (call_wp (fn := f__law_reduced) rfl rfl ?_)
  simp -implicitDefEqProofs [f__law_reduced, b__law_reduced, so_lenS (s := w) (le_lineN (by omega)), it_rng1 (show w.length ≤ 1000000 by omega)]
  refine wp_for (fun i e => ∃ (cur : List Nat) (x y : Option D), Lt cur ∧ Eqv cur w ∧ cur.length ≤ w.length ∧ (Np cur ∨ cur.length + 2 * i ≤ w.length) ∧ e = [some (.imm (.str cur)), x, y]) ⟨w, none, none, h, Eqv.rfl', Nat.le_refl _, .inr (Nat.le_refl _), rfl⟩ (fun i p e hp hi => ?_) (fun e hi => ?_)
  · obtain ⟨cur, x, y, hc, he, hcl, hm, rfl⟩ := hi
    obtain ⟨hin, rfl⟩ := rng_get hp
    have hlen := so_lenS (s := cur) (le_lineN (by omega))
    have hcl2 : cur.length ≤ line := le_lineN (by omega)
    simp -implicitDefEqProofs [stepFf, hlen, it_rng1i (show -1000000 ≤ (cur.length : Int) - 1 ∧ (cur.length : Int) - 1 ≤ 1000000 by omega)]
    refine wp_for (fun j e => ∃ (y : Option D), (∀ q a b, q < j → cur[q]? = some a → cur[q + 1]? = some b → a ≠ swC b) ∧ e = [some (.imm (.str cur)), some (.imm (.int i)), y]) ⟨y, fun q _ _ hq => absurd hq (Nat.not_lt_zero q), rfl⟩ (fun j p e hp hi => ?_) (fun e hi => ?_)
    · obtain ⟨y, hN, rfl⟩ := hi
      obtain ⟨hj, rfl⟩ := rng_get hp
      have hj1 : j + 1 < cur.length := by omega
      have hj0 : j < cur.length := by omega
      have ea : cur[j]? = some cur[j] := List.getElem?_eq_getElem hj0
      have eb : cur[j + 1]? = some cur[j + 1] := List.getElem?_eq_getElem hj1
      have hba : cur[j + 1] < 128 := hc.as _ (List.getElem_mem hj1)
      generalize cur[j] = a at *
      generalize cur[j + 1] = b at *
      have e1 := so_idxS (s := cur) (a := (j : Int)) hcl2
      rw [at_nat hj0, ea] at e1
      have e1 : opSem .idx [.imm (.str cur), .imm (.int (j : Int))] = some (.imm (.str [a])) := e1
      have e2 := so_idxS (s := cur) (a := ((j + 1 : Nat) : Int)) hcl2
      rw [at_nat hj1, eb, show ((j + 1 : Nat) : Int) = (j : Int) + 1 by omega] at e2
      have e2 : opSem .idx [.imm (.str cur), .imm (.int ((j : Int) + 1))] = some (.imm (.str [b])) := e2
      have e3 := c_turned k b hba
      by_cases hab : a = swC b
      · have e4 : slcSem (.imm (.str cur)) none (some (j : Int)) = some (.imm (.str (cur.take j))) := by rw [so_slcS hcl2, cut_0n]
        have e5 : slcSem (.imm (.str cur)) (some ((j : Int) + 2)) none = some (.imm (.str (cur.drop (j + 2)))) := by
          rw [so_slcS hcl2, show (j : Int) + 2 = ((j + 2 : Nat) : Int) by omega, cut_n0]
        have e6 : opSem .add [.imm (.str (cur.take j)), .imm (.str (cur.drop (j + 2)))] = some (.imm (.str (cur.take j ++ cur.drop (j + 2)))) := so_adds (le_lineN (by simp; omega))
        have h1 := cut_eqv ea eb hab
        have h2 : (cur.take j ++ cur.drop (j + 2)).length + 2 = cur.length := by simp; omega
        have h3 : Lt (cur.take j ++ cur.drop (j + 2)) := (hc.take _).app (hc.drop _)
        have h4 : ¬ Np cur := fun q => q j a b ea eb hab
        generalize cur.take j ++ cur.drop (j + 2) = nc at *
        generalize cur.take j = c1 at *
        generalize cur.drop (j + 2) = c2 at *
        simp -implicitDefEqProofs [stepFf, e1, e2, e3, hab, e4, e5, e6]
        refine ⟨nc, h3, h1.trans' he, by omega, .inr ?_, rfl⟩
        rcases hm with hm | hm
        · exact absurd hm h4
        · omega
      · simp -implicitDefEqProofs [stepFf, e1, e2, e3, hab]
        intro q a' b' hq ha' hb'
        rcases Nat.lt_or_ge q j with hq2 | hq2
        · exact hN q a' b' hq2 ha' hb'
        · obtain rfl : q = j := by omega
          rw [ea] at ha'; rw [eb] at hb'
          obtain rfl := Option.some.inj ha'
          obtain rfl := Option.some.inj hb'
          exact hab
    · obtain ⟨y, hN, rfl⟩ := hi
      refine (wp_some _).mpr ⟨cur, hc, he, hcl, .inl ?_, _, y, rfl⟩
      intro q a b ha hb
      refine hN q a b ?_ ha hb
      have := (List.getElem?_eq_some_iff.mp hb).1
      rw [List.length_map, List.length_range]
      omega
  · obtain ⟨cur, x, y, hc, he, hcl, hm, rfl⟩ := hi
    rw [List.length_map, List.length_range] at hm
    have hn : Np cur := by
      rcases hm with hm | hm
      · exact hm
      · have : cur = [] := List.length_eq_zero_iff.mp (by omega)
        rw [this]
        exact fun q a b ha _ => by simp at ha
    have e : red w = cur := by rw [← red_of_eqv he, red_np hn]
    rw [e]
    simp -implicitDefEqProofs [asgTs, asgT]
theorem getD_get {w : List Nat} {i : Nat} (h : i < w.length) : w[i]? = some (w.getD i 0) := by
  rw [List.getD_eq_getElem?_getD, List.getElem?_eq_getElem h] <;> rfl
theorem c_core (k : Nat) (w : List Nat) (h : Lt w) (hl : w.length ≤ 5000) : callF prog G (k + 2) 7 [.imm (.str w)] = some (.imm (.tup [.str (coB w), .str (coI w)]), [.imm (.str w)]) := by
  refine wp_is (call_wp (fn := f_core) rfl rfl ?_)
  have e0 := c_red k w h hl
  have hr := h.red
  have hrl := len_red w
  simp only [f_core, b_core]
  refine wp_seq (fun r => r = (.nx, [some (.imm (.str (red w))), none])) (fun R hR => ?_) fun r hr => ?_
  · simp -implicitDefEqProofs [e0]
    exact hR _ rfl
  subst hr
  refine wp_seq (fun r => r = (.nx, [some (.imm (.str (red w))), some (.imm (.int 0))])) (fun R hR => ?_) fun r hr => ?_
  · simp -implicitDefEqProofs
    exact hR _ rfl
  subst hr
  have hll : (red w).length ≤ line := le_lineN (by omega)
  have hlen := so_lenS hll
  unfold coB coI
  generalize red w = v at *
  refine wp_seq (fun r => r = (.nx, [some (.imm (.str v)), some (.imm (.int (K v)))])) (fun R hR => ?_) fun r hr => ?_
  · rw [sx_whl]
    refine wp_whl (fun m e => ∃ j : Nat, m = v.length - j ∧ (∀ q, q < j → cond v q = true) ∧ e = [some (.imm (.str v)), some (.imm (.int j))]) (m := v.length) ⟨0, rfl, fun q hq => absurd hq (Nat.not_lt_zero q), rfl⟩ (show v.length < 1000000000 by omega) fun m e hi => ?_
    obtain ⟨j, rfl, hj, rfl⟩ := hi
    have hmul : opSem .mul [.imm (.int 2), .imm (.int (j : Int))] = some (.imm (.int (2 * (j : Int)))) := so_mul (mul_l (by decide))
    by_cases h1 : 2 * j + 1 < v.length
    · have h1' : (2 * (j : Int) + 1 < (v.length : Int)) = True := eq_true (by omega)
      have hj0 : j < v.length := by omega
      have hj1 : v.length - 1 - j < v.length := by omega
      have e1 := so_idxS (s := v) (a := (j : Int)) hll
      rw [at_nat hj0, getD_get hj0] at e1
      have e1 : opSem .idx [.imm (.str v), .imm (.int (j : Int))] = some (.imm (.str [v.getD j 0])) := e1
      have e2 := so_idxS (s := v) (a := ((v.length - 1 - j : Nat) : Int)) hll
      rw [at_nat hj1, getD_get hj1, show ((v.length - 1 - j : Nat) : Int) = (v.length : Int) - 1 - (j : Int) by omega] at e2
      have e2 : opSem .idx [.imm (.str v), .imm (.int ((v.length : Int) - 1 - (j : Int)))] = some (.imm (.str [v.getD (v.length - 1 - j) 0])) := e2
      have h3 : v.getD (v.length - 1 - j) 0 < 128 := hr.as _ (List.mem_of_getElem? (getD_get hj1))
      have e3 : opSem .swapcase [.imm (.str [v.getD (v.length - 1 - j) 0])] = some (.imm (.str [swC (v.getD (v.length - 1 - j) 0)])) := so_swap (fun d hd => by rw [List.mem_singleton.mp hd]; exact h3) (by simp)
      have hc : cond v j = decide (v.getD j 0 = swC (v.getD (v.length - 1 - j) 0)) := by
        unfold cond
        rw [decide_eq_true h1, Bool.true_and]
      generalize swC (v.getD (v.length - 1 - j) 0) = sb at *
      generalize v.getD (v.length - 1 - j) 0 = b at *
      generalize v.getD j 0 = a at *
      by_cases hab : a = sb
      · rw [decide_eq_true hab] at hc
        subst hab
        simp -implicitDefEqProofs [stepWw, rcvOk, hlen, hmul, h1', e1, e2, e3]
        refine ⟨v.length - (j + 1), by omega, j + 1, rfl, fun q hq => ?_, rfl⟩
        rcases Nat.lt_or_ge q j with hq2 | hq2
        · exact hj q hq2
        · obtain rfl : q = j := by omega
          exact hc
      · rw [decide_eq_false hab] at hc
        have hK := isK_uniq (isK v) ⟨hj, hc⟩
        simp -implicitDefEqProofs [stepWw, rcvOk, hlen, hmul, h1', e1, e2, e3, hab]
        refine hR _ ?_
        rw [hK]
    · have h1' : (2 * (j : Int) + 1 < (v.length : Int)) = False := eq_false (by omega)
      have hc : cond v j = false := by
        unfold cond
        rw [decide_eq_false h1, Bool.false_and]
      have hK := isK_uniq (isK v) ⟨hj, hc⟩
      simp -implicitDefEqProofs [stepWw, rcvOk, hlen, hmul, h1']
      refine hR _ ?_
      rw [hK]
  subst hr
  have hk := (K_len (isK v).1).1
  have e4 : slcSem (.imm (.str v)) none (some (K v : Int)) = some (.imm (.str (v.take (K v)))) := by rw [so_slcS hll, cut_0n]
  have e5 : slcSem (.imm (.str v)) (some (K v : Int)) (some ((v.length : Int) - (K v : Int))) = some (.imm (.str (mid v (K v)))) := by
    rw [so_slcS hll, show (v.length : Int) - (K v : Int) = ((v.length - K v : Nat) : Int) by omega, cut_nn, show v.length - K v - K v = v.length - 2 * K v by omega] <;> rfl
  have h2 : (2 : Nat) ≤ line := le_lineN (by omega)
  generalize (K v : Int) = kv at *
  generalize v.take (K v) = t at *
  generalize mid v (K v) = m at *
  simp -implicitDefEqProofs [hlen, e4, e5, h2, asgTs, asgT]
theorem cond_at {v : List Nat} {j : Nat} (h1 : 2 * j + 1 < v.length) : (mid v j)[0]? = some (v.getD j 0) ∧ (mid v j)[(mid v j).length - 1]? = some (v.getD (v.length - 1 - j) 0) ∧ (mid v j).length = v.length - 2 * j := by
  have hm : (mid v j).length = v.length - 2 * j := by unfold mid; rw [List.length_take, List.length_drop]; omega
  refine ⟨?_, ?_, hm⟩
  · unfold mid
    rw [List.getElem?_take_of_lt (by omega), List.getElem?_drop, Nat.add_zero, getD_get (by omega)]
  · rw [hm]
    unfold mid
    rw [List.getElem?_take_of_lt (by omega), List.getElem?_drop, show j + (v.length - 2 * j - 1) = v.length - 1 - j by omega, getD_get (by omega)]
theorem mid_next {v : List Nat} {j : Nat} (h1 : 2 * j + 1 < v.length) : ((mid v j).drop 1).take ((mid v j).length - 1 - 1) = mid v (j + 1) := by
  rw [(cond_at h1).2.2]
  unfold mid
  rw [List.drop_take, List.take_take, List.drop_drop]
  congr 1
  omega
theorem c_lcore (k : Nat) (w : List Nat) (h : Lt w) (hl : w.length ≤ 5000) : callF prog G (k + 3) 19 [.imm (.str w)] = some (.imm (.tup [.str (coB w), .str (coI w)]), [.imm (.str w)]) := by
  refine wp_is (call_wp (fn := f__law_core) rfl rfl ?_)
  have e0 := c_lred k w h hl
  have hr := h.red
  have hrl := len_red w
  simp only [f__law_core, b__law_core]
  refine wp_seq (fun r => r = (.nx, [some (.imm (.str w)), none, some (.imm (.str [])), some (.imm (.str (red w)))])) (fun R hR => ?_) fun r hr => ?_
  · simp -implicitDefEqProofs [e0]
    exact hR _ rfl
  subst hr
  have hll : (red w).length ≤ line := le_lineN (by omega)
  have hlen := so_lenS hll
  unfold coB coI
  generalize red w = v at *
  refine wp_seq (fun r => ∃ x, r = (.nx, [some (.imm (.str w)), x, some (.imm (.str (v.take (K v)))), some (.imm (.str (mid v (K v))))])) (fun R hR => ?_) fun r hr => ?_
  · simp -implicitDefEqProofs [hlen, it_rng1 (show v.length ≤ 1000000 by omega)]
    refine wp_for (fun i e => ∃ (j : Nat) (x : Option D), (∀ q, q < j → cond v q = true) ∧ (j = i ∨ cond v j = false) ∧ e = [some (.imm (.str w)), x, some (.imm (.str (v.take j))), some (.imm (.str (mid v j)))]) ⟨0, none, fun q hq => absurd hq (Nat.not_lt_zero q), .inl rfl, by simp [mid]⟩ (fun i p e hp hi => ?_) (fun e hi => ?_)
    · obtain ⟨j, x, hj, hji, rfl⟩ := hi
      obtain ⟨hin, rfl⟩ := rng_get hp
      have hm : (mid v j).length ≤ v.length := by unfold mid; rw [List.length_take, List.length_drop]; omega
      have hml : (mid v j).length ≤ line := le_lineN (by omega)
      have hlm := so_lenS hml
      have hjl := (K_len hj).1
      have hmm : (mid v j).length = v.length - 2 * j := by unfold mid; rw [List.length_take, List.length_drop]; omega
      by_cases h1 : 2 * j + 1 < v.length
      · obtain ⟨ea, eb, _⟩ := cond_at h1
        have hnext := mid_next h1
        have h1' : (1 < (mid v j).length) = True := eq_true (by omega)
        have h1'' : ((1:Int) < ((mid v j).length : Int)) = True := eq_true (by omega)
        have e1 := so_idxS (s := mid v j) (a := ((0 : Nat) : Int)) hml
        rw [at_nat (by omega), ea] at e1
        have e1 : opSem .idx [.imm (.str (mid v j)), .imm (.int 0)] = some (.imm (.str [v.getD j 0])) := e1
        have e2 := so_idxS (s := mid v j) (a := (((mid v j).length - 1 : Nat) : Int)) hml
        rw [at_nat (by omega), eb, show (((mid v j).length - 1 : Nat) : Int) = ((mid v j).length : Int) - 1 by omega] at e2
        have e2 : opSem .idx [.imm (.str (mid v j)), .imm (.int (((mid v j).length : Int) - 1))] = some (.imm (.str [v.getD (v.length - 1 - j) 0])) := e2
        have hj1 : v.length - 1 - j < v.length := by omega
        have h3 : v.getD (v.length - 1 - j) 0 < 128 := hr.as _ (List.mem_of_getElem? (getD_get hj1))
        have e3 := c_turned (k + 1) _ h3
        have hc : cond v j = decide (v.getD j 0 = swC (v.getD (v.length - 1 - j) 0)) := by
          unfold cond
          rw [decide_eq_true h1, Bool.true_and]
        have hta : opSem .add [.imm (.str (v.take j)), .imm (.str [v.getD j 0])] = some (.imm (.str (v.take (j + 1)))) := by
          rw [so_adds (le_lineN (by rw [List.length_take]; simp; omega)), List.take_add_one, getD_get (by omega)] <;> rfl
        have hsl : slcSem (.imm (.str (mid v j))) (some 1) (some (((mid v j).length : Int) - 1)) = some (.imm (.str (mid v (j + 1)))) := by
          rw [so_slcS hml, show ((mid v j).length : Int) - 1 = (((mid v j).length - 1 : Nat) : Int) by omega, show (1 : Int) = ((1 : Nat) : Int) from rfl, cut_nn, hnext]
        generalize swC (v.getD (v.length - 1 - j) 0) = sb at *
        generalize v.getD (v.length - 1 - j) 0 = b at *
        generalize v.getD j 0 = a at *
        by_cases hab : a = sb
        · rw [decide_eq_true hab] at hc
          subst hab
          have hij : j = i := hji.resolve_right (by rw [hc]; decide)
          subst hij
          have hfin : ∀ q, q < j + 1 → cond v q = true := fun q hq => by
            rcases Nat.lt_or_ge q j with hq2 | hq2
            · exact hj q hq2
            · obtain rfl : q = j := by omega
              exact hc
          simp -implicitDefEqProofs [stepFf, hlm, h1', h1'', e1, e2, e3, hta, hsl]
          exact ⟨j + 1, hfin, .inl rfl, rfl, rfl⟩
        · rw [decide_eq_false hab] at hc
          simp -implicitDefEqProofs [stepFf, hlm, h1', h1'', e1, e2, e3, hab]
          exact ⟨j, hj, .inr hc, rfl, rfl⟩
      · have h1' : (1 < (mid v j).length) = False := eq_false (by omega)
        have h1'' : ((1:Int) < ((mid v j).length : Int)) = False := eq_false (by omega)
        have hc : cond v j = false := by
          unfold cond
          rw [decide_eq_false h1, Bool.false_and]
        simp -implicitDefEqProofs [stepFf, hlm, h1', h1'']
        exact ⟨j, hj, .inr hc, rfl, rfl⟩
    · obtain ⟨j, x, hj, hji, rfl⟩ := hi
      rw [List.length_map, List.length_range] at hji
      have hc : cond v j = false := by
        rcases hji with rfl | hc
        · unfold cond
          rw [decide_eq_false (by omega), Bool.false_and]
        · exact hc
      have hK := isK_uniq (isK v) ⟨hj, hc⟩
      rw [← hK]
      exact hR _ ⟨x, rfl⟩
  obtain ⟨x, rfl⟩ := hr
  have h2 : (2 : Nat) ≤ line := le_lineN (by omega)
  generalize v.take (K v) = t at *
  generalize mid v (K v) = m at *
  simp -implicitDefEqProofs [h2, asgTs, asgT]
end Sw.k15
namespace Sw.k15
theorem c_tby (k : Nat) (w : List Nat) (a : Nat) (hl : w.length ≤ 5000) : callF prog G (k + 1) 2 [.imm (.str w), .imm (.int (a : Int))] = some (.imm (.str (rot w a)), [.imm (.str w), .imm (.int (a : Int))]) := by
  refine wp_is (call_wp (fn := f_turned_by) rfl rfl ?_)
  have hll : w.length ≤ line := le_lineN (by omega)
  have e4 : slcSem (.imm (.str w)) none (some (a : Int)) = some (.imm (.str (w.take a))) := by rw [so_slcS hll, cut_0n]
  have e5 : slcSem (.imm (.str w)) (some (a : Int)) none = some (.imm (.str (w.drop a))) := by rw [so_slcS hll, cut_n0]
  have ha : opSem .add [.imm (.str (w.drop a)), .imm (.str (w.take a))] = some (.imm (.str (rot w a))) := so_adds (le_lineN (by simp; omega))
  generalize rot w a = r at *
  generalize w.take a = t at *
  generalize w.drop a = d at *
  generalize (a : Int) = a at *
  simp -implicitDefEqProofs [f_turned_by, b_turned_by, e4, e5, ha, asgTs, asgT]
theorem rot_len (w : List Nat) (a : Nat) : (rot w a).length = w.length := by unfold rot; simp; omega
def rp (w : List Nat) (a : Nat) : P := .tup [.str (rot w a), .int (a : Int)]
theorem c_least (k : Nat) (w : List Nat) (hl : w.length ≤ 5000) : ∃ a : Nat, callF prog G (k + 2) 3 [.imm (.str w)] = some (.imm (rp w a), [.imm (.str w)]) ∧ IsLeast w (rot w a) := by
  have key : ∃ r, callF prog G (k + 1 + 1) 3 [.imm (.str w)] = some r ∧ ∃ a : Nat, r = (.imm (rp w a), [.imm (.str w)]) ∧ IsLeast w (rot w a) := by
    refine wp_all fun R hR => call_wp (fn := f_least_rotation) rfl rfl ?_
    have hlen := so_lenS (s := w) (le_lineN (by omega))
    have hmax := so_maxN 1 w.length
    have hmax : opSem .max2 [.imm (.int 1), .imm (.int (w.length : Int))] = some (.imm (.int ((max 1 w.length : Nat) : Int))) := hmax
    obtain ⟨n, hn⟩ : ∃ n, n = max 1 w.length := ⟨_, rfl⟩
    have h2 : (2 : Nat) ≤ line := le_lineN (by omega)
    rw [← hn] at hmax
    simp -implicitDefEqProofs [-so_max, f_least_rotation, b_least_rotation, hlen, hmax, it_rng1 (show n ≤ 1000000 by omega)]
    refine wp_comp (fun i acc e => acc = (List.range i).map (rp w) ∧ ∃ x, e = [some (.imm (.str w)), x]) ⟨rfl, none, rfl⟩ (fun i p acc e hp hi => ?_) (fun acc e hi => ?_)
    · obtain ⟨rfl, x, rfl⟩ := hi
      obtain ⟨hin, rfl⟩ := rng_get hp
      have e2 := c_tby k w i hl
      have hl2 : ((List.range i).map (rp w)).length < line := lt_lineN (by simp; omega)
      have hstep : (List.range (i + 1)).map (rp w) = (List.range i).map (rp w) ++ [P.tup [.str (rot w i), .int (i : Int)]] := by
        rw [List.range_succ, List.map_append] <;> rfl
      rw [hstep]
      generalize (List.range i).map (rp w) = acc at *
      simp -implicitDefEqProofs [stepCc, e2, h2, hl2]
    · obtain ⟨rfl, x, rfl⟩ := hi
      rw [List.length_map, List.length_range]
      have hns : (List.range n) = 0 :: (List.range (n - 1)).map (· + 1) := by
        rw [show n = (n - 1) + 1 by omega, List.range_succ_eq_map]
        rfl
      have hm := so_minSI (w := (rot w 0, 0)) (ws := ((List.range (n - 1)).map (· + 1)).map fun a => (rot w a, a))
      have hsp := minD_spec (((List.range (n - 1)).map (· + 1)).map (rp w)) (rp w 0)
      have em : ∀ l : List Nat, (l.map fun a => (rot w a, a)).map (fun q : List Nat × Nat => P.tup [.str q.1, .int (q.2 : Int)]) = l.map (rp w) := fun l => by
        rw [List.map_map]; rfl
      have em2 : (rp w 0 :: ((List.range (n - 1)).map (· + 1)).map (rp w)) = (List.range n).map (rp w) := by rw [hns, List.map_cons]
      rw [List.map_cons, em] at hm
      have hm : opSem .minL [.lst (rp w 0 :: ((List.range (n - 1)).map (· + 1)).map (rp w))] = some (.imm (minD (rp w 0) (((List.range (n - 1)).map (· + 1)).map (rp w)))) := hm
      rw [em2] at hm hsp
      generalize minD (rp w 0) (((List.range (n - 1)).map (· + 1)).map (rp w)) = m at *
      obtain ⟨h1, h3⟩ := hsp
      obtain ⟨a, ha, rfl⟩ := List.mem_map.mp h1
      have hle : IsLeast w (rot w a) := by
        unfold IsLeast rots
        rw [← hn]
        refine ⟨List.mem_map.mpr ⟨a, ha, rfl⟩, fun r hr => ?_⟩
        obtain ⟨b, hb, rfl⟩ := List.mem_map.mp hr
        have h4 := h3 (rp w b) (List.mem_map.mpr ⟨b, hb, rfl⟩)
        unfold rp at h4
        rw [ltD_si] at h4
        by_cases e : rot w b = rot w a
        · rw [e]; exact List.lt_irrefl _
        · rw [if_neg e] at h4
          simpa using h4
      generalize (List.range n).map (rp w) = acc at *
      have hR := hR (.imm (rp w a), [.imm (.str w)]) ⟨a, rfl, hle⟩
      generalize rp w a = m at *
      simp -implicitDefEqProofs [hm, asgTs, asgT]
      exact hR
  obtain ⟨r, e, a, rfl, h⟩ := key
  exact ⟨a, e, h⟩
theorem c_rots (k : Nat) (w : List Nat) (hl : w.length ≤ 5000) : callF prog G (k + 1) 20 [.imm (.str w)] = some (.lst ((rots w).map P.str), [.imm (.str w)]) := by
  refine wp_is (call_wp (fn := f__law_rotations) rfl rfl ?_)
  have hll : w.length ≤ line := le_lineN (by omega)
  have hlen := so_lenS hll
  have hst := st_str hll
  have h1 : (1 : Nat) ≤ line := le_lineN (by omega)
  by_cases hw : w = []
  · subst hw
    simp -implicitDefEqProofs [f__law_rotations, b__law_rotations, hst, h1, asgTs, asgT]
    rfl
  · have he : w.isEmpty = false := by simpa using hw
    rw [he] at hst
    have hp := List.length_pos_iff.mpr hw
    have hr : rots w = (List.range w.length).map (rot w) := by unfold rots; rw [Nat.max_eq_right hp]
    rw [hr]
    simp -implicitDefEqProofs [-List.map_map, f__law_rotations, b__law_rotations, hst, hlen, it_rng1 (show w.length ≤ 1000000 by omega)]
    refine wp_comp (fun i acc e => acc = ((List.range i).map (rot w)).map P.str ∧ ∃ x, e = [some (.imm (.str w)), x]) ⟨rfl, none, rfl⟩ (fun i p acc e hp hi => ?_) (fun acc e hi => ?_)
    · obtain ⟨rfl, x, rfl⟩ := hi
      obtain ⟨hin, rfl⟩ := rng_get hp
      have e4 : slcSem (.imm (.str w)) none (some (i : Int)) = some (.imm (.str (w.take i))) := by rw [so_slcS hll, cut_0n]
      have e5 : slcSem (.imm (.str w)) (some (i : Int)) none = some (.imm (.str (w.drop i))) := by rw [so_slcS hll, cut_n0]
      have ha : opSem .add [.imm (.str (w.drop i)), .imm (.str (w.take i))] = some (.imm (.str (rot w i))) := so_adds (le_lineN (by simp; omega))
      have hl2 : (((List.range i).map (rot w)).map P.str).length < line := lt_lineN (by simp; omega)
      have hstep : ((List.range (i + 1)).map (rot w)).map P.str = ((List.range i).map (rot w)).map P.str ++ [.str (rot w i)] := by
        rw [List.range_succ, List.map_append, List.map_append] <;> rfl
      rw [hstep]
      generalize ((List.range i).map (rot w)).map P.str = acc at *
      generalize rot w i = r at *
      generalize w.take i = t at *
      generalize w.drop i = d at *
      simp -implicitDefEqProofs [stepCc, e4, e5, ha, hl2]
    · obtain ⟨rfl, x, rfl⟩ := hi
      rw [List.length_map, List.length_range]
theorem rots_len (w : List Nat) : (rots w).length = max 1 w.length := by unfold rots; simp
/-- sorted(rotations)[0] -/
theorem at_head {α : Type} (x : α) (t : List α) : atP (x :: t) 0 = some x := by
  rw [show (0 : Int) = ((0 : Nat) : Int) from rfl, at_nat (by simp)] <;> rfl
theorem sort_rots (w : List Nat) (hl : w.length ≤ 5000) : ∃ f t, IsLeast w f ∧ opSem .sorted [.lst ((rots w).map P.str)] = some (.lst (.str f :: t)) ∧ f.length = w.length := by
  have h1 := so_sortS (ws := rots w) (le_lineN (by rw [rots_len]; omega))
  have hne : (rots w).map P.str ≠ [] := by
    intro q
    have := congrArg List.length q
    rw [List.length_map, rots_len] at this
    simp at this
  obtain ⟨x, t, e, hx, hm⟩ := sortD_head hne
  obtain ⟨f, hf, rfl⟩ := List.mem_map.mp hx
  refine ⟨f, t, ⟨hf, fun r hr => ?_⟩, by rw [h1, e], ?_⟩
  · have := hm (.str r) (List.mem_map.mpr ⟨r, hr, rfl⟩)
    rw [ltD_str] at this
    simpa using this
  · unfold rots at hf
    obtain ⟨a, _, rfl⟩ := List.mem_map.mp hf
    exact rot_len w a
theorem c_root (k : Nat) (w : List Nat) (hw : w ≠ []) (hl : w.length ≤ 5000) : ∃ s : Nat, callF prog G (k + 1) 1 [.imm (.str w)] = some (.imm (.tup [.str (w.take s), .int ((w.length / s : Nat) : Int)]), [.imm (.str w)]) ∧ 0 < s ∧ isRoot w s = true ∧ ∀ r, 0 < r → r < s → isRoot w r = false := by
  have key : ∃ r, callF prog G (k + 1) 1 [.imm (.str w)] = some r ∧ ∃ s : Nat, r = (.imm (.tup [.str (w.take s), .int ((w.length / s : Nat) : Int)]), [.imm (.str w)]) ∧ 0 < s ∧ isRoot w s = true ∧ ∀ r, 0 < r → r < s → isRoot w r = false := by
    refine wp_all fun R hR => call_wp (fn := f_root_of) rfl rfl ?_
    have hll : w.length ≤ line := le_lineN (by omega)
    have hlen := so_lenS hll
    have h2 : (2 : Nat) ≤ line := le_lineN (by omega)
    have hit := it_rng2 (i := 1) (j := (w.length : Int) + 1) (by omega)
    rw [show ((w.length : Int) + 1 - 1).toNat = w.length by omega] at hit
    simp only [f_root_of, b_root_of]
    refine wp_seq (fun r => ∃ s : Nat, ∃ x, 0 < s ∧ isRoot w s = true ∧ (∀ r, 0 < r → r < s → isRoot w r = false) ∧ r = (.rt (.imm (.tup [.str (w.take s), .int ((w.length / s : Nat) : Int)])), [some (.imm (.str w)), x])) (fun R hR => ?_) fun r hr => ?_
    · simp -implicitDefEqProofs [hlen, hit]
      refine wp_for (fun i e => ∃ x, (∀ r, 0 < r → r < i + 1 → isRoot w r = false) ∧ e = [some (.imm (.str w)), x]) ⟨none, fun r h1 h2 => by omega, rfl⟩ (fun i p e hp hi => ?_) (fun e hi => ?_)
      · obtain ⟨x, hx, rfl⟩ := hi
        have hin : i < w.length := by
          have := (List.getElem?_eq_some_iff.mp hp).1
          simpa using this
        obtain rfl : p = .int (1 + (i : Int)) := by
          rw [List.getElem?_map, List.getElem?_range hin] at hp
          exact (Option.some.inj hp).symm
        obtain ⟨s, hs⟩ : ∃ s, s = i + 1 := ⟨_, rfl⟩
        rw [show (1 : Int) + (i : Int) = (s : Int) by omega]
        have e1 := so_modN (a := w.length) (b := s) (by omega)
        have e2 := so_fdivN (a := w.length) (b := s) (by omega) (by omega)
        have e4 : slcSem (.imm (.str w)) none (some (s : Int)) = some (.imm (.str (w.take s))) := by rw [so_slcS hll, cut_0n]
        have hdl : w.length / s ≤ w.length := Nat.div_le_self _ _
        have hml : (w.take s).length * (w.length / s) ≤ 100000 := by
          have h5 : (w.take s).length ≤ s := by rw [List.length_take]; omega
          have h6 : (w.take s).length * (w.length / s) ≤ s * (w.length / s) := Nat.mul_le_mul_right _ h5
          have h7 := Nat.mul_div_le w.length s
          omega
        have e3 : opSem .mul [.imm (.str (w.take s)), .imm (.int ((w.length / s : Nat) : Int))] = some (.imm (.str (rpt (w.take s) (w.length / s)))) := so_mulW (le_lineN hml) (by omega)
        have hnew : isRoot w s = false → ∀ r, 0 < r → r < i + 1 + 1 → isRoot w r = false := fun hf r h1 h2 => by
          rcases Nat.lt_or_ge r (i + 1) with q | q
          · exact hx r h1 q
          · rw [show r = s by omega]; exact hf
        have hR2 := fun (ht : isRoot w s = true) x => hR (.rt (.imm (.tup [.str (w.take s), .int ((w.length / s : Nat) : Int)])), [some (.imm (.str w)), x]) ⟨s, x, by omega, ht, fun r h1 h2 => hx r h1 (by omega), rfl⟩
        have hroot : isRoot w s = (decide (w.length % s = 0) && decide (rpt (w.take s) (w.length / s) = w)) := rfl
        have hz : (((w.length % s : Nat) : Int) = 0) = (w.length % s = 0) := propext (by omega)
        have hsm : (s : Int) < 1000000 := by omega
        generalize w.length % s = m at *
        generalize w.length / s = q at *
        generalize rpt (w.take s) q = rr at *
        generalize w.take s = t at *
        by_cases hm : m = 0
        · by_cases hq : rr = w
          · have := hR2 (by rw [hroot, decide_eq_true hm, decide_eq_true hq] <;> rfl)
            clear hR2 hnew hroot hx
            generalize (q : Int) = q at *
            generalize (m : Int) = m at *
            simp -implicitDefEqProofs [stepFf, hlen, e1, e2, e3, e4, hz, hm, hq, h2]
            exact this _
          · have := hnew (by rw [hroot, decide_eq_false hq, Bool.and_false])
            simp -implicitDefEqProofs [stepFf, hlen, e1, e2, e3, e4, hm, hq, h2]
            intro r h1 h2
            exact this r h1 h2
        · have := hnew (by rw [hroot, decide_eq_false hm, Bool.false_and])
          simp -implicitDefEqProofs [stepFf, hlen, e1, e2, e3, e4, hz, hm, h2]
          intro r h1 h2
          exact this r h1 h2
      · obtain ⟨x, hx, rfl⟩ := hi
        rw [List.length_map, List.length_range] at hx
        have := hx w.length (List.length_pos_iff.mpr hw) (by omega)
        rw [root_full hw] at this
        cases this
    obtain ⟨s, x, h1, h3, h4, rfl⟩ := hr
    simp -implicitDefEqProofs [asgTs, asgT]
    exact hR _ ⟨s, rfl, h1, h3, h4⟩
  obtain ⟨r, e, s, rfl, h⟩ := key
  exact ⟨s, e, h⟩
end Sw.k15
namespace Sw.k15
def unl : List Nat := [117, 110, 108, 105, 107, 101]
def mvd : List Nat := [109, 111, 118, 101, 100]
theorem co_len (w : List Nat) : 2 * (coB w).length + (coI w).length ≤ w.length := by
  have h1 := congrArg List.length (co_split w)
  have h2 := len_red w
  rw [List.length_append, List.length_append, iv_len] at h1
  omega
theorem Lt.coB {w : List Nat} (h : Lt w) : Lt (coB w) := h.red.take _
theorem Lt.coI {w : List Nat} (h : Lt w) : Lt (coI w) := (h.red.drop _).take _
/-- what is told of two words -/
def Told (u v : List Nat) (p : P) : Prop := ∃ f g, IsLeast (coI u) f ∧ IsLeast (coI v) g ∧ Lt f ∧ Lt g ∧ f.length ≤ u.length ∧ g.length ≤ v.length ∧
  ((f ≠ g ∧ p = .tup [.str unl, .str f, .str g]) ∨ (f = g ∧ ∃ m, p = .tup [.str mvd, .str m] ∧ Lt m ∧ m.length ≤ u.length + v.length ∧ red m = m ∧ red (iv m ++ u ++ m) = red v))
theorem Lt.rot {w : List Nat} (h : Lt w) (a : Nat) : Lt (rot w a) := (h.drop a).app (h.take a)
theorem c_moved (k : Nat) (u v : List Nat) (hu : Lt u) (hv : Lt v) (hul : u.length ≤ 1000) (hvl : v.length ≤ 1000) : ∃ p, callF prog G (k + 3) 8 [.imm (.str u), .imm (.str v)] = some (.imm p, [.imm (.str u), .imm (.str v)]) ∧ Told u v p := by
  have key : ∃ r, callF prog G (k + 2 + 1) 8 [.imm (.str u), .imm (.str v)] = some r ∧ ∃ p, r = (.imm p, [.imm (.str u), .imm (.str v)]) ∧ Told u v p := by
    refine wp_all fun R hR => call_wp (fn := f_moved_paper) rfl rfl ?_
    have hcu := co_len u
    have hcv := co_len v
    have e1 := c_core k u hu (by omega)
    have e2 := c_core k v hv (by omega)
    obtain ⟨a, e3, hf⟩ := c_least k (coI u) (by omega)
    obtain ⟨b, e4, hg⟩ := c_least k (coI v) (by omega)
    have hrl := rot_len (coI u) a
    have hrl2 := rot_len (coI v) b
    have hbu := hu.coB; have hbv := hv.coB; have hiu := hu.coI; have hiv := hv.coI
    have h2 : (2 : Nat) ≤ line := le_lineN (by omega)
    have h3 : (3 : Nat) ≤ line := le_lineN (by omega)
    have hmk := moved_ok (u := u) (v := v) (a := a) (b := b)
    have hT1 : rot (coI u) a ≠ rot (coI v) b → Told u v (.tup [.str unl, .str (rot (coI u) a), .str (rot (coI v) b)]) := fun h => ⟨_, _, hf, hg, hiu.rot a, hiv.rot b, by omega, by omega, .inl ⟨h, rfl⟩⟩
    have hT2 : rot (coI u) a = rot (coI v) b → ∀ m, Lt m → m.length ≤ u.length + v.length → red m = m → red (iv m ++ u ++ m) = red v → Told u v (.tup [.str mvd, .str m]) := fun h m h1 h2 h3 h4 => ⟨_, _, hf, hg, hiu.rot a, hiv.rot b, by omega, by omega, .inr ⟨h, m, rfl, h1, h2, h3, h4⟩⟩
    clear hf hg
    have e5 : slcSem (.imm (.str (coI u))) none (some (a : Int)) = some (.imm (.str ((coI u).take a))) := by rw [so_slcS (le_lineN (by omega)), cut_0n]
    have e6 : slcSem (.imm (.str (coI v))) none (some (b : Int)) = some (.imm (.str ((coI v).take b))) := by rw [so_slcS (le_lineN (by omega)), cut_0n]
    have hta := hiu.take a
    have htb := hiv.take b
    have hal : ((coI u).take a).length ≤ (coI u).length := by rw [List.length_take]; omega
    have hbl : ((coI v).take b).length ≤ (coI v).length := by rw [List.length_take]; omega
    unfold rp at e3 e4
    generalize rot (coI u) a = fr at *
    generalize rot (coI v) b = gr at *
    generalize (coI u).take a = ta at *
    generalize (coI v).take b = tb at *
    generalize coI u = iu at *
    generalize coI v = iv' at *
    generalize coB u = bu at *
    generalize coB v = bv at *
    have hat0 : ∀ (x y : P), atP [x, y] 0 = some x := fun x y => at_nat (i := 0) (by simp)
    have hat1 : ∀ (x y : P), atP [x, y] 1 = some y := fun x y => at_nat (i := 1) (by simp)
    have e7 := c_inv (k + 1) tb htb (by omega)
    have e8 := c_inv (k + 1) bv hbv (by omega)
    have e9 : opSem .add [.imm (.str bu), .imm (.str ta)] = some (.imm (.str (bu ++ ta))) := so_adds (le_lineN (by omega))
    have e10 : opSem .add [.imm (.str (bu ++ ta)), .imm (.str (iv tb))] = some (.imm (.str (bu ++ ta ++ iv tb))) := so_adds (le_lineN (by rw [iv_len, List.length_append]; omega))
    have e11 : opSem .add [.imm (.str (bu ++ ta ++ iv tb)), .imm (.str (iv bv))] = some (.imm (.str (bu ++ ta ++ iv tb ++ iv bv))) := so_adds (le_lineN (by rw [iv_len, List.length_append, List.length_append, iv_len]; omega))
    have hxl : (bu ++ ta ++ iv tb ++ iv bv).length ≤ u.length + v.length := by rw [List.length_append, List.length_append, List.length_append, iv_len, iv_len]; omega
    have hxL : Lt (bu ++ ta ++ iv tb ++ iv bv) := ((hbu.app hta).app htb.iv).app hbv.iv
    have e12 := c_red (k + 1) _ hxL (by omega)
    have hml := len_red (bu ++ ta ++ iv tb ++ iv bv)
    have hT2 := fun h => hT2 h _ hxL.red (by omega) (hmk h).1 (hmk h).2
    clear hmk
    generalize red (bu ++ ta ++ iv tb ++ iv bv) = m at *
    generalize bu ++ ta ++ iv tb ++ iv bv = x4 at *
    generalize bu ++ ta ++ iv tb = x3 at *
    generalize bu ++ ta = x2 at *
    generalize iv tb = itb at *
    generalize iv bv = ibv at *
    by_cases hfg : fr = gr
    · have hR := hR _ ⟨_, rfl, hT2 hfg⟩
      subst hfg
      simp -implicitDefEqProofs [f_moved_paper, b_moved_paper, e1, e2, e3, e4, e5, e6, e7, e8, e9, e10, e11, e12, h2, h3, hat0, hat1, asgTs, asgT]
      exact hR
    · have hR := hR _ ⟨_, rfl, hT1 hfg⟩
      simp -implicitDefEqProofs [f_moved_paper, b_moved_paper, e1, e2, e3, e4, hfg, h2, h3, hat0, hat1, asgTs, asgT]
      exact hR
  obtain ⟨r, e, p, rfl, h⟩ := key
  exact ⟨p, e, h⟩
theorem c_isword (k : Nat) (w : List Nat) (h : Lt w) (hl : w.length ≤ 4000) : callF prog G (k + 1) 0 [.imm (.str w), .imm (.str A6), .imm (.int 4000)] = some (.imm (.bl true), [.imm (.str w), .imm (.str A6), .imm (.int 4000)]) := by
  refine wp_is (call_wp (fn := f_is_word) rfl rfl ?_)
  have hlen := so_lenS (s := w) (le_lineN (by omega))
  have hle : ((w.length : Int) ≤ 4000) = True := eq_true (by omega)
  simp -implicitDefEqProofs [f_is_word, b_is_word, isTy, hlen, hle]
  refine wp_comp (fun i acc e => acc = (List.replicate i true).map P.bl ∧ i ≤ w.length ∧ ∃ x, e = [some (.imm (.str w)), some (.imm (.str A6)), some (.imm (.int 4000)), x]) ⟨rfl, Nat.zero_le _, none, rfl⟩ (fun i p acc e hp hi => ?_) (fun acc e hi => ?_)
  · obtain ⟨rfl, hil, x, rfl⟩ := hi
    obtain ⟨c, hc, rfl⟩ := chr_get hp
    have hlt : i < w.length := (List.getElem?_eq_some_iff.mp hc).1
    have hcm := h c (List.mem_of_getElem? hc)
    have hin : opSem .isin [.imm (.str [c]), .imm (.str A6)] = some (.imm (.bl true)) := by
      rw [so_inS, find_chr]
      have : A6.contains c = true := by simpa using hcm
      rw [this]
    have hl2 : ((List.replicate i true).map P.bl).length < line := lt_lineN (by simp; omega)
    have hstep : (List.replicate (i + 1) true).map P.bl = (List.replicate i true).map P.bl ++ [.bl true] := by
      rw [List.replicate_succ', List.map_append] <;> rfl
    rw [hstep]
    generalize (List.replicate i true).map P.bl = acc at *
    generalize A6 = A at *
    simp -implicitDefEqProofs [stepCc, hin, hl2]
    exact hlt
  · obtain ⟨rfl, hil, x, rfl⟩ := hi
    rw [List.length_map]
    have ha := so_all (List.replicate w.length true)
    rw [all_true] at ha
    generalize (List.replicate w.length true).map P.bl = acc at *
    simp -implicitDefEqProofs [ha, asgTs, asgT]
end Sw.k15
namespace Sw.k15
/-- the values that are judged -/
inductive Val : P → Type where
  | lst (ps : List P) : Val (.lst ps)
  | one (a : List Nat) : Val (.tup [.str a])
  | mv (b : List Nat) : Lt b → b.length ≤ 1000 → Val (.tup [.str mvd, .str b])
  | un (a b : List Nat) : Val (.tup [.str unl, .str a, .str b])
  | num : Val (.tup [.str mvd, .int 1])
def ans (u v f g : List Nat) : {p : P} → Val p → Bool
  | _, .lst _ => false
  | _, .one _ => false
  | _, .mv b _ _ => decide (red b = b) && decide (red (iv b ++ u ++ b) = red v)
  | _, .un a b => decide (f ≠ g) && (decide (a = f) && decide (b = g))
  | _, .num => false
theorem so_eqUU (a b c d : List Nat) : opSem .eq [.imm (.tup [.str unl, .str a, .str b]), .imm (.tup [.str unl, .str c, .str d])] = some (.imm (.bl (decide (a = c) && decide (b = d)))) := by
  simp only [opSem, cmpEq, rd, depth, depths, peq, peqs]
  rw [if_pos (by decide)]
  by_cases h1 : a = c <;> by_cases h2 : b = d <;> simp [h1, h2, ib]
theorem dcomm {a b c d : List Nat} : (decide (a = b) && decide (c = d)) = (decide (b = a) && decide (d = c)) := by
  rw [show decide (a = b) = decide (b = a) from decide_eq_decide.mpr eq_comm, show decide (c = d) = decide (d = c) from decide_eq_decide.mpr eq_comm]
theorem so_eqMU (m c d : List Nat) : opSem .eq [.imm (.tup [.str mvd, .str m]), .imm (.tup [.str unl, .str c, .str d])] = some (.imm (.bl false)) := by
  simp only [opSem, cmpEq, rd, depth, depths, peq, peqs]
  rw [if_pos (by decide)]
  simp [unl, mvd, ib]
theorem lits : ([117, 110, 108, 105, 107, 101] : List Nat) = unl ∧ ([109, 111, 118, 101, 100] : List Nat) = mvd ∧ ([97, 98, 99, 65, 66, 67] : List Nat) = A6 := ⟨rfl, rfl, rfl⟩
theorem lne : (mvd = unl) = False ∧ (unl = mvd) = False := ⟨eq_false (by decide), eq_false (by decide)⟩
theorem at11 (x : P) : atP [x] 0 = some x := at_nat (i := 0) (by simp)
theorem at20 (x y : P) : atP [x, y] 0 = some x := at_nat (i := 0) (by simp)
theorem at21 (x y : P) : atP [x, y] 1 = some y := at_nat (i := 1) (by simp)
theorem at30 (x y z : P) : atP [x, y, z] 0 = some x := at_nat (i := 0) (by simp)
theorem at31 (x y z : P) : atP [x, y, z] 1 = some y := at_nat (i := 1) (by simp)
theorem at32 (x y z : P) : atP [x, y, z] 2 = some z := at_nat (i := 2) (by simp)
theorem all1 : opSem .all [.lst [.bl true]] = some (.imm (.bl true)) := so_all [true]
theorem all2 : opSem .all [.lst [.bl true, .bl true]] = some (.imm (.bl true)) := so_all [true, true]
theorem all2f : opSem .all [.lst [.bl true, .bl false]] = some (.imm (.bl false)) := so_all [true, false]
theorem all3 : opSem .all [.lst [.bl true, .bl true, .bl true]] = some (.imm (.bl true)) := so_all [true, true, true]
theorem nin1 : opSem .notin [.imm (.int 1), .imm (.tup [.int 2, .int 3])] = some (.imm (.bl true)) := by decide +kernel
theorem nin2 : opSem .notin [.imm (.int 2), .imm (.tup [.int 2, .int 3])] = some (.imm (.bl false)) := by decide +kernel
theorem nin3 : opSem .notin [.imm (.int 3), .imm (.tup [.int 2, .int 3])] = some (.imm (.bl false)) := by decide +kernel
theorem lin : (0 : Nat) < line ∧ (1 : Nat) < line ∧ (2 : Nat) < line ∧ (1 : Nat) ≤ line ∧ (2 : Nat) ≤ line ∧ (3 : Nat) ≤ line := ⟨lt_lineN (by omega), lt_lineN (by omega), lt_lineN (by omega), le_lineN (by omega), le_lineN (by omega), le_lineN (by omega)⟩
theorem hG : G[0]? = some (.str A6) := rfl
theorem c_judge (k : Nat) (u v f g : List Nat) (hu : Lt u) (hv : Lt v) (hul : u.length ≤ 500) (hvl : v.length ≤ 500) (hf : IsLeast (coI u) f) (hg : IsLeast (coI v) g) {p : P} (q : Val p) :
    callF prog G (k + 4) 9 [.imm (.str u), .imm (.str v), .imm p] = some (.imm (.bl (ans u v f g q)), [.imm (.str u), .imm (.str v), .imm p]) := by
  refine wp_is (call_wp (fn := f_judge_moved) rfl rfl ?_)
  cases q with
  | lst ps =>
    simp -implicitDefEqProofs [f_judge_moved, b_judge_moved, isTy, lits.1, lits.2.1, lin, ans, asgTs, asgT]
  | one a =>
    simp -implicitDefEqProofs [f_judge_moved, b_judge_moved, isTy, lits.1, lits.2.1, lin, nin1, ans, asgTs, asgT]
  | num =>
    simp -implicitDefEqProofs [f_judge_moved, b_judge_moved, isTy, lits.1, lits.2.1, lin, nin2, compL, stepCc, all2f, ans, asgTs, asgT]
  | mv b hb hbl =>
    have e1 := c_isword (k + 2) b hb (by omega)
    have e2 := c_red (k + 2) b hb (by omega)
    have e3 := c_inv (k + 2) b hb (by omega)
    have e4 : opSem .add [.imm (.str (iv b)), .imm (.str u)] = some (.imm (.str (iv b ++ u))) := so_adds (le_lineN (by rw [iv_len]; omega))
    have e5 : opSem .add [.imm (.str (iv b ++ u)), .imm (.str b)] = some (.imm (.str (iv b ++ u ++ b))) := so_adds (le_lineN (by rw [List.length_append, iv_len]; omega))
    have hx : Lt (iv b ++ u ++ b) := (hb.iv.app hu).app hb
    have hxl : (iv b ++ u ++ b).length ≤ 5000 := by rw [List.length_append, List.length_append, iv_len]; omega
    have e6 := c_red (k + 2) _ hx hxl
    have e7 := c_red (k + 2) v hv (by omega)
    have ha : ans u v f g (Val.mv b hb hbl) = (decide (red b = b) && decide (red (iv b ++ u ++ b) = red v)) := rfl
    rw [ha]
    generalize red (iv b ++ u ++ b) = r1 at *
    generalize iv b ++ u ++ b = x2 at *
    generalize iv b ++ u = x1 at *
    generalize iv b = x0 at *
    generalize red v = r2 at *
    generalize red b = rb at *
    by_cases hbb : rb = b
    · subst hbb
      simp -implicitDefEqProofs [f_judge_moved, b_judge_moved, isTy, lits.1, lits.2.1, lin, nin2, compL, stepCc, all2, at20, at21, lne.1, hG, e1, e2, e3, e4, e5, e6, e7, asgTs, asgT]
    · simp -implicitDefEqProofs [f_judge_moved, b_judge_moved, isTy, lits.1, lits.2.1, lin, nin2, compL, stepCc, all2, at20, at21, lne.1, hG, e1, e2, hbb, asgTs, asgT]
  | un a b =>
    obtain ⟨p, e1, f', g', h1, h2, _, _, _, _, h3⟩ := c_moved k u v hu hv (by omega) (by omega)
    obtain rfl := least_uniq hf h1
    obtain rfl := least_uniq hg h2
    clear h1 h2
    rcases h3 with ⟨h3, rfl⟩ | ⟨h3, m, rfl, _⟩
    · have e2 := so_eqUU f g a b
      rw [dcomm] at e2
      have h3' : decide (f ≠ g) = true := decide_eq_true h3
      have ha : ans u v f g (Val.un a b) = (decide (f ≠ g) && (decide (a = f) && decide (b = g))) := rfl
      rw [ha, h3', Bool.true_and]
      generalize (decide (a = f) && decide (b = g)) = r at *
      simp -implicitDefEqProofs [f_judge_moved, b_judge_moved, isTy, lits.1, lits.2.1, lin, nin3, compL, stepCc, all3, at30, e1, e2, asgTs, asgT]
    · have e2 := so_eqMU m a b
      have h3' : decide (f ≠ g) = false := decide_eq_false fun q => q h3
      have ha : ans u v f g (Val.un a b) = (decide (f ≠ g) && (decide (a = f) && decide (b = g))) := rfl
      rw [ha, h3', Bool.false_and]
      simp -implicitDefEqProofs [f_judge_moved, b_judge_moved, isTy, lits.1, lits.2.1, lin, nin3, compL, stepCc, all3, at30, e1, e2, asgTs, asgT]
theorem c_ismoved (k : Nat) (u v f g : List Nat) (hu : Lt u) (hv : Lt v) (hul : u.length ≤ 500) (hvl : v.length ≤ 500) (hf : IsLeast (coI u) f) (hg : IsLeast (coI v) g) {p : P} (q : Val p) :
    callF prog G (k + 4) 21 [.imm (.str u), .imm (.str v), .imm p] = some (.imm (.bl (ans u v f g q)), [.imm (.str u), .imm (.str v), .imm p]) := by
  refine wp_is (call_wp (fn := f__law_is_moved) rfl rfl ?_)
  have hcu := co_len u
  have hcv := co_len v
  have e1 := c_lcore k u hu (by omega)
  have e2 := c_lcore k v hv (by omega)
  have e3 := c_rots (k + 2) (coI u) (by omega)
  have e4 := c_rots (k + 2) (coI v) (by omega)
  obtain ⟨f', tf, h1, e5, _⟩ := sort_rots (coI u) (by omega)
  obtain ⟨g', tg, h2, e6, _⟩ := sort_rots (coI v) (by omega)
  obtain rfl := least_uniq hf h1
  obtain rfl := least_uniq hg h2
  clear h1 h2 hf hg
  cases q with
  | lst ps =>
    simp -implicitDefEqProofs [f__law_is_moved, b__law_is_moved, isTy, lits.1, lits.2.1, lin, ans, asgTs, asgT]
  | one a =>
    simp -implicitDefEqProofs [f__law_is_moved, b__law_is_moved, isTy, lits.1, lits.2.1, lin, ans, asgTs, asgT]
  | num =>
    simp -implicitDefEqProofs [f__law_is_moved, b__law_is_moved, isTy, lits.1, lits.2.1, lin, compL, stepCc, all2f, ans, asgTs, asgT]
  | mv b hb hbl =>
    have ha : ans u v f g (Val.mv b hb hbl) = (decide (red b = b) && decide (red (iv b ++ u ++ b) = red v)) := rfl
    rw [ha]
    generalize (rots (coI u)).map P.str = R1 at *
    generalize (rots (coI v)).map P.str = R2 at *
    generalize coI u = iu at *
    generalize coI v = iv' at *
    generalize coB u = bu at *
    generalize coB v = bv at *
    have e7 := c_lred (k + 1) b hb (by omega)
    have e8 := c_linv (k + 1) b hb (by omega)
    have e9 : opSem .add [.imm (.str (iv b)), .imm (.str u)] = some (.imm (.str (iv b ++ u))) := so_adds (le_lineN (by rw [iv_len]; omega))
    have e10 : opSem .add [.imm (.str (iv b ++ u)), .imm (.str b)] = some (.imm (.str (iv b ++ u ++ b))) := so_adds (le_lineN (by rw [List.length_append, iv_len]; omega))
    have hx : Lt (iv b ++ u ++ b) := (hb.iv.app hu).app hb
    have hxl : (iv b ++ u ++ b).length ≤ 5000 := by rw [List.length_append, List.length_append, iv_len]; omega
    have e11 := c_lred (k + 1) _ hx hxl
    have e12 := c_lred (k + 1) v hv (by omega)
    generalize red (iv b ++ u ++ b) = r1 at *
    generalize iv b ++ u ++ b = x2 at *
    generalize iv b ++ u = x1 at *
    generalize iv b = x0 at *
    generalize red v = r2 at *
    simp only [f__law_is_moved, b__law_is_moved]
    refine wp_seq (fun r => r = (.nx, [some (.imm (.str u)), some (.imm (.str v)), some (.imm (.tup [.str mvd, .str b])), none, none, none, none, none, none])) (fun R hR => ?_) fun r hr => ?_
    · simp -implicitDefEqProofs [isTy, lin, compL, stepCc, all2]
      exact hR _ rfl
    subst hr
    refine wp_seq (fun r => r = (.nx, [some (.imm (.str u)), some (.imm (.str v)), some (.imm (.tup [.str mvd, .str b])), none, some (.imm (.str f)), some (.imm (.str g)), none, none, none])) (fun R hR => ?_) fun r hr => ?_
    · simp -implicitDefEqProofs [lin, compL, stepCc, at21, at_head, e1, e2, e3, e4, e5, e6]
      exact hR _ rfl
    subst hr
    refine wp_seq (fun r => r = (.nx, [some (.imm (.str u)), some (.imm (.str v)), some (.imm (.tup [.str mvd, .str b])), none, some (.imm (.str f)), some (.imm (.str g)), none, none, none])) (fun R hR => ?_) fun r hr => ?_
    · simp -implicitDefEqProofs [at20, lits.1, lits.2.1, lne.1]
      exact hR _ rfl
    subst hr
    refine wp_seq (fun r => ∃ x, r = (.nx, [some (.imm (.str u)), some (.imm (.str v)), some (.imm (.tup [.str mvd, .str b])), none, some (.imm (.str f)), some (.imm (.str g)), none, x, none])) (fun R hR => ?_) fun r hr => ?_
    · simp -implicitDefEqProofs [at20, at21, lits.1, lits.2.1, lits.2.2, lne.1]
      refine wp_comp (fun i acc e => acc = (List.replicate i false).map P.bl ∧ i ≤ b.length ∧ e = [some (.imm (.str u)), some (.imm (.str v)), some (.imm (.tup [.str mvd, .str b])), none, some (.imm (.str f)), some (.imm (.str g)), none, none, none]) ⟨rfl, Nat.zero_le _, rfl⟩ (fun i p acc e hp hi => ?_) (fun acc e hi => ?_)
      · obtain ⟨rfl, hil, rfl⟩ := hi
        obtain ⟨c, hc, rfl⟩ := chr_get hp
        have hlt : i < b.length := (List.getElem?_eq_some_iff.mp hc).1
        have hcm := hb c (List.mem_of_getElem? hc)
        have hin : opSem .notin [.imm (.str [c]), .imm (.str A6)] = some (.imm (.bl false)) := by
          rw [so_ninS, find_chr]
          have : A6.contains c = true := by simpa using hcm
          rw [this] <;> rfl
        have hl2 : ((List.replicate i false).map P.bl).length < line := lt_lineN (by simp; omega)
        have hstep : (List.replicate (i + 1) false).map P.bl = (List.replicate i false).map P.bl ++ [.bl false] := by
          rw [List.replicate_succ', List.map_append] <;> rfl
        rw [hstep]
        generalize (List.replicate i false).map P.bl = acc at *
        generalize A6 = A at *
        simp -implicitDefEqProofs [stepCc, hin, hl2]
        exact hlt
      · obtain ⟨rfl, hil, rfl⟩ := hi
        rw [List.length_map]
        have ha := so_any (List.replicate b.length false)
        have hz : (List.replicate b.length false).any id = false := by
          rw [List.any_eq_false]
          intro x hx
          rw [List.eq_of_mem_replicate hx]
          decide
        rw [hz] at ha
        generalize (List.replicate b.length false).map P.bl = acc at *
        simp -implicitDefEqProofs [ha]
        exact hR _ ⟨_, rfl⟩
    obtain ⟨x, rfl⟩ := hr
    by_cases hbb : red b = b
    · rw [hbb] at e7 ⊢
      simp -implicitDefEqProofs [at21, e7, e8, e9, e10, e11, e12, asgTs, asgT]
    · simp -implicitDefEqProofs [at21, e7, e8, hbb, asgTs, asgT]
  | un a b =>
    have e7 := so_eqUU a b f g
    have ha : ans u v f g (Val.un a b) = (decide (f ≠ g) && (decide (a = f) && decide (b = g))) := rfl
    rw [ha]
    generalize (rots (coI u)).map P.str = R1 at *
    generalize (rots (coI v)).map P.str = R2 at *
    generalize coI u = iu at *
    generalize coI v = iv' at *
    generalize coB u = bu at *
    generalize coB v = bv at *
    generalize (decide (a = f) && decide (b = g)) = r at *
    by_cases hfg : f = g
    · have h3' : decide (f ≠ g) = false := decide_eq_false fun q => q hfg
      rw [h3', Bool.false_and]
      subst hfg
      simp -implicitDefEqProofs [f__law_is_moved, b__law_is_moved, isTy, lits.1, lits.2.1, lin, compL, stepCc, all3, at30, at21, at_head, e1, e2, e3, e4, e5, e6, asgTs, asgT]
    · have h3' : decide (f ≠ g) = true := decide_eq_true hfg
      rw [h3', Bool.true_and]
      simp -implicitDefEqProofs [f__law_is_moved, b__law_is_moved, isTy, lits.1, lits.2.1, lin, compL, stepCc, all3, at30, at21, at_head, e1, e2, e3, e4, e5, e6, e7, hfg, asgTs, asgT]
end Sw.k15
namespace Sw.k15
theorem c_power (k : Nat) (w : List Nat) (n : Nat) (hw : Lt w) (hn : n ≤ 100) (hl : w.length ≤ 50) : callF prog G (k + 3) 22 [.imm (.str w), .imm (.int (n : Int))] = some (.imm (.str (red (rpt w n))), [.imm (.str w), .imm (.int (n : Int))]) := by
  refine wp_is (call_wp (fn := f__law_power) rfl rfl ?_)
  have hml : w.length * n ≤ 50 * 100 := Nat.mul_le_mul hl hn
  have e1 : opSem .mul [.imm (.str w), .imm (.int (n : Int))] = some (.imm (.str (rpt w n))) := so_mulW (le_lineN (by omega)) (by omega)
  have hL : Lt (rpt w n) := fun c hc => by
    obtain ⟨x, hx, hc⟩ := List.mem_flatten.mp hc
    rw [List.eq_of_mem_replicate hx] at hc
    exact hw c hc
  have hlen : (rpt w n).length ≤ 5000 := by
    unfold rpt
    rw [List.length_flatten, List.map_replicate, List.sum_replicate_nat, Nat.mul_comm]
    omega
  have e2 := c_lred k _ hL hlen
  generalize red (rpt w n) = r at *
  generalize rpt w n = x at *
  generalize (n : Int) = n at *
  simp -implicitDefEqProofs [f__law_power, b__law_power, e1, e2, asgTs, asgT]
theorem c_rgroup (k : Nat) (w : List Nat) (hw : Lt w) (hne : red w ≠ []) (hl : w.length ≤ 1000) : ∃ s : Nat, callF prog G (k + 3) 10 [.imm (.str w)] = some (.imm (.tup [.str (red (coB w ++ (coI w).take s ++ iv (coB w))), .int (((coI w).length / s : Nat) : Int)]), [.imm (.str w)]) ∧ 0 < s ∧ isRoot (coI w) s = true ∧ ∀ r, 0 < r → r < s → isRoot (coI w) r = false := by
  have hc := co_len w
  have e1 := c_core k w hw (by omega)
  obtain ⟨s, e2, h1, h2, h3⟩ := c_root (k + 1) (coI w) (co_ne hne) (by omega)
  refine ⟨s, ?_, h1, h2, h3⟩
  clear h1 h2 h3
  refine wp_is (call_wp (fn := f_root_of_group) rfl rfl ?_)
  have hb := hw.coB
  have hi := hw.coI
  have hit := hi.take s
  have hitl : ((coI w).take s).length ≤ (coI w).length := by rw [List.length_take]; omega
  generalize ((((coI w).length / s : Nat)) : Int) = q at *
  generalize (coI w).take s = t at *
  generalize coI w = i at *
  generalize coB w = b at *
  have e3 := c_inv (k + 1) b hb (by omega)
  have e4 : opSem .add [.imm (.str b), .imm (.str t)] = some (.imm (.str (b ++ t))) := so_adds (le_lineN (by omega))
  have e5 : opSem .add [.imm (.str (b ++ t)), .imm (.str (iv b))] = some (.imm (.str (b ++ t ++ iv b))) := so_adds (le_lineN (by rw [iv_len, List.length_append]; omega))
  have e6 := c_red (k + 1) (b ++ t ++ iv b) ((hb.app hit).app hb.iv) (by rw [List.length_append, List.length_append, iv_len]; omega)
  generalize red (b ++ t ++ iv b) = r at *
  generalize b ++ t ++ iv b = x1 at *
  generalize b ++ t = x0 at *
  generalize iv b = ib at *
  simp -implicitDefEqProofs [f_root_of_group, b_root_of_group, lin, e1, e2, e3, e4, e5, e6, asgTs, asgT]
end Sw.k15
namespace Sw.k15
theorem told_parts {u v : List Nat} {p : P} (h : Told u v p) (hl : u.length + v.length ≤ 900) : ∃ f g tp t1 a0, IsLeast (coI u) f ∧ IsLeast (coI v) g ∧ Lt f ∧ Lt g ∧ f.length ≤ u.length ∧ g.length ≤ v.length ∧ p = .tup tp ∧ atP tp 1 = some (.str t1) ∧ Lt t1 ∧ t1.length ≤ u.length + v.length ∧
    cutP tp none (some 1) = [.str a0] ∧ tp.length ≤ 3 ∧ (∃ q : Val (.tup tp), ans u v f g q = true) ∧ (f ≠ g → P.tup tp = .tup [.str unl, .str f, .str g]) := by
  obtain ⟨f, g, h1, h2, h3, h4, h5, h6, h7⟩ := h
  rcases h7 with ⟨h8, rfl⟩ | ⟨h8, m, rfl, h9, h10, h11, h12⟩
  · exact ⟨f, g, _, f, unl, h1, h2, h3, h4, h5, h6, rfl, at31 _ _ _, h3, by omega, by rw [show (1 : Int) = ((1 : Nat) : Int) from rfl, cut_0n] <;> rfl, by simp, ⟨.un f g, by simp [ans, h8]⟩, fun _ => rfl⟩
  · exact ⟨f, g, _, m, mvd, h1, h2, h3, h4, h5, h6, rfl, at21 _ _, h9, h10, by rw [show (1 : Int) = ((1 : Nat) : Int) from rfl, cut_0n] <;> rfl, by simp, ⟨.mv m h9 (by omega), by
    have ha : ans u v f g (.mv m h9 (by omega)) = (decide (red m = m) && decide (red (iv m ++ u ++ m) = red v)) := rfl
    rw [ha, decide_eq_true h11, decide_eq_true h12] <;> rfl⟩, fun q => absurd h8 q⟩
theorem al_ss (a b : List Nat) : AL 1 (.tup [.str a, .str b]) := ⟨by simp, fun p hp => by
  simp only [List.mem_cons, List.not_mem_nil, or_false] at hp
  rcases hp with rfl | rfl <;> trivial⟩
theorem al_sss (a b c : List Nat) : AL 1 (.tup [.str a, .str b, .str c]) := ⟨by simp, fun p hp => by
  simp only [List.mem_cons, List.not_mem_nil, or_false] at hp
  rcases hp with rfl | rfl | rfl <;> trivial⟩
theorem al_si (a : List Nat) (b : Int) : AL 1 (.tup [.str a, .int b]) := ⟨by simp, fun p hp => by
  simp only [List.mem_cons, List.not_mem_nil, or_false] at hp
  rcases hp with rfl | rfl <;> trivial⟩
theorem filt_succ (f : Nat → Bool) (i : Nat) : ((List.range (i + 1)).map (· + 1)).filter f = ((List.range i).map (· + 1)).filter f ++ (if f (i + 1) then [i + 1] else []) := by
  rw [List.range_succ, List.map_append, List.filter_append]
  have : ([i].map (· + 1)).filter f = if f (i + 1) then [i + 1] else [] := by cases hb : f (i + 1) <;> simp [hb]
  rw [this]
theorem law_true (ns : List Int) (hns : ns.length ≤ 63) : ∃ rs, callF prog G 200 23 [.imm (.lst (ns.map P.int))] = some (.imm (.bl true), rs) := by
  have key : ∃ r, callF prog G (199 + 1) 23 [.imm (.lst (ns.map P.int))] = some r ∧ ∃ rs, r = (.imm (.bl true), rs) := by
    refine wp_all fun R hR => call_wp (fn := f_law) rfl rfl ?_
    simp only [f_law, b_law]
    obtain ⟨c1, e1, w1⟩ := c_start 198 ns hns
    have e1 : callF prog G 199 11 [.imm (.lst (ns.map P.int))] = some (.lst c1, [.imm (.lst (ns.map P.int))]) := e1
    generalize hS : D.imm (P.lst (ns.map P.int)) = S at *
    refine wp_seq (fun r => r = (.nx, [some S, some (.lst c1), none, none, none, none, none, none, none, none, none, none, none, none, none, none, none])) (fun R hR => ?_) fun r hr => ?_
    · subst hS
      simp -implicitDefEqProofs [e1]
      exact hR _ rfl
    subst hr
    obtain ⟨c2, u0, e2, w2, hu0, Lu0⟩ := c_word 196 c1 8 w1 (by omega)
    have e2 : callF prog G 199 15 [.lst c1, .imm (.int 8)] = some (.imm (.str u0), [.lst c2, .imm (.int 8)]) := e2
    refine wp_seq (fun r => r = (.nx, [some S, some (.lst c2), some (.imm (.str u0)), none, none, none, none, none, none, none, none, none, none, none, none, none, none])) (fun R hR => ?_) fun r hr => ?_
    · simp -implicitDefEqProofs [e2]
      exact hR _ rfl
    subst hr
    obtain ⟨c3, b, e3, w3, hb, Lb⟩ := c_word 196 c2 4 w2 (by omega)
    have e3 : callF prog G 199 15 [.lst c2, .imm (.int 4)] = some (.imm (.str b), [.lst c3, .imm (.int 4)]) := e3
    refine wp_seq (fun r => r = (.nx, [some S, some (.lst c3), some (.imm (.str u0)), some (.imm (.str b)), none, none, none, none, none, none, none, none, none, none, none, none, none])) (fun R hR => ?_) fun r hr => ?_
    · simp -implicitDefEqProofs [e3]
      exact hR _ rfl
    subst hr
    obtain ⟨c4, kd, e4, w4, hk⟩ := c_take 197 c3 4 w3 (by omega) (by omega)
    have e4 : callF prog G 199 13 [.lst c3, .imm (.int 4)] = some (.imm (.int kd), [.lst c4, .imm (.int 4)]) := e4
    refine wp_seq (fun r => r = (.nx, [some S, some (.lst c4), some (.imm (.str u0)), some (.imm (.str b)), some (.imm (.int kd)), none, none, none, none, none, none, none, none, none, none, none, none])) (fun R hR => ?_) fun r hr => ?_
    · simp -implicitDefEqProofs [e4]
      exact hR _ rfl
    subst hr
    clear e1 e2 e3 e4 w1 w2 w3
    have e5 : callF prog G 199 18 [.imm (.str b)] = some (.imm (.str (iv b)), [.imm (.str b)]) := c_linv 197 b Lb (by omega)
    have hivl := iv_len b
    refine wp_seq (fun r => ∃ c5 v, WC c5 ∧ Lt v ∧ v.length ≤ 16 ∧ r = (.nx, [some S, some (.lst c5), some (.imm (.str u0)), some (.imm (.str b)), some (.imm (.int kd)), some (.imm (.str v)), none, none, none, none, none, none, none, none, none, none, none])) (fun R hR => ?_) fun r hr => ?_
    · by_cases hk0 : kd = 0
      · obtain ⟨c5, v, e6, w5, hv, Lv⟩ := c_word 196 c4 8 w4 (by omega)
        have e6 : callF prog G 199 15 [.lst c4, .imm (.int 8)] = some (.imm (.str v), [.lst c5, .imm (.int 8)]) := e6
        subst hk0
        simp -implicitDefEqProofs [e6]
        exact hR _ ⟨c5, v, w5, Lv, by omega, rfl⟩
      · by_cases hk1 : kd = 1
        · have e7 : opSem .add [.imm (.str (iv b)), .imm (.str u0)] = some (.imm (.str (iv b ++ u0))) := so_adds (le_lineN (by omega))
          have e8 : opSem .add [.imm (.str (iv b ++ u0)), .imm (.str b)] = some (.imm (.str (iv b ++ u0 ++ b))) := so_adds (le_lineN (by rw [List.length_append]; omega))
          have hR := hR _ ⟨c4, iv b ++ u0 ++ b, w4, (Lb.iv.app Lu0).app Lb, by rw [List.length_append, List.length_append]; omega, rfl⟩
          subst hk1
          generalize iv b ++ u0 ++ b = v at *
          generalize iv b ++ u0 = x at *
          simp -implicitDefEqProofs [e5, e7, e8]
          exact hR
        · have h0 : ((kd : Int) = 0) = False := eq_false (by omega)
          have h1 : ((kd : Int) = 1) = False := eq_false (by omega)
          have hul : u0.length ≤ line := le_lineN (by omega)
          have e7 : slcSem (.imm (.str u0)) (some 2) none = some (.imm (.str (u0.drop 2))) := by rw [so_slcS hul, show (2 : Int) = ((2 : Nat) : Int) from rfl, cut_n0]
          have e8 : slcSem (.imm (.str u0)) none (some 2) = some (.imm (.str (u0.take 2))) := by rw [so_slcS hul, show (2 : Int) = ((2 : Nat) : Int) from rfl, cut_0n]
          have e9 : opSem .add [.imm (.str (u0.drop 2)), .imm (.str (u0.take 2))] = some (.imm (.str (u0.drop 2 ++ u0.take 2))) := so_adds (le_lineN (by simp; omega))
          have hR := hR _ ⟨c4, u0.drop 2 ++ u0.take 2, w4, (Lu0.drop 2).app (Lu0.take 2), by simp; omega, rfl⟩
          generalize u0.drop 2 ++ u0.take 2 = v at *
          generalize u0.drop 2 = x at *
          generalize u0.take 2 = y at *
          generalize (kd : Int) = kd at *
          simp -implicitDefEqProofs [h0, h1, e7, e8, e9]
          exact hR
    obtain ⟨c5, v, w5, Lv, hv, rfl⟩ := hr
    refine wp_seq (fun r => ∃ u, Lt u ∧ u.length ≤ 32 ∧ r = (.nx, [some S, some (.lst c5), some (.imm (.str u)), some (.imm (.str b)), some (.imm (.int kd)), some (.imm (.str v)), none, none, none, none, none, none, none, none, none, none, none])) (fun R hR => ?_) fun r hr => ?_
    · by_cases hk3 : kd = 3
      · have e7 : opSem .mul [.imm (.str u0), .imm (.int 3)] = some (.imm (.str (rpt u0 3))) := so_mulW (n := 3) (le_lineN (by omega)) (by omega)
        have hrl : (rpt u0 3).length = 3 * u0.length := by unfold rpt; rw [List.length_flatten, List.map_replicate, List.sum_replicate_nat]
        have hrL : Lt (rpt u0 3) := fun c hc => by
          obtain ⟨x, hx, hc⟩ := List.mem_flatten.mp hc
          rw [List.eq_of_mem_replicate hx] at hc
          exact Lu0 c hc
        have e8 : opSem .add [.imm (.str b), .imm (.str (rpt u0 3))] = some (.imm (.str (b ++ rpt u0 3))) := so_adds (le_lineN (by omega))
        have e9 : opSem .add [.imm (.str (b ++ rpt u0 3)), .imm (.str (iv b))] = some (.imm (.str (b ++ rpt u0 3 ++ iv b))) := so_adds (le_lineN (by rw [List.length_append]; omega))
        have hR := hR _ ⟨b ++ rpt u0 3 ++ iv b, (Lb.app hrL).app Lb.iv, by rw [List.length_append, List.length_append]; omega, rfl⟩
        subst hk3
        generalize b ++ rpt u0 3 ++ iv b = z at *
        generalize b ++ rpt u0 3 = y at *
        generalize rpt u0 3 = x at *
        simp -implicitDefEqProofs [e5, e7, e8, e9]
        exact hR
      · have h3 : ((kd : Int) = 3) = False := eq_false (by omega)
        have hR := hR _ ⟨u0, Lu0, by omega, rfl⟩
        generalize (kd : Int) = kd at *
        simp -implicitDefEqProofs [h3]
        exact hR
    obtain ⟨u, Lu, hu, rfl⟩ := hr
    clear Lu0 hu0 hk w4 e5
    generalize (kd : Int) = kd at *
    -- the three words
    refine wp_seq (fun r => ∃ x6, r = (.nx, [some S, some (.lst c5), some (.imm (.str u)), some (.imm (.str b)), some (.imm (.int kd)), some (.imm (.str v)), some (.imm x6), none, none, none, none, none, none, none, none, none, none])) (fun R hR => ?_) fun r hr => ?_
    · simp -implicitDefEqProofs [lin]
      refine wp_for (fun i e => ∃ x6, (i = 3 → ∃ y, x6 = some (.imm y)) ∧ e = [some S, some (.lst c5), some (.imm (.str u)), some (.imm (.str b)), some (.imm (.int kd)), some (.imm (.str v)), x6, none, none, none, none, none, none, none, none, none, none]) ⟨none, fun h => by omega, rfl⟩ (fun i p e hp hi => ?_) (fun e hi => ?_)
      · obtain ⟨x6, _, rfl⟩ := hi
        have hpw : ∃ w, p = .str w ∧ Lt w ∧ w.length ≤ 32 := by
          have := List.mem_of_getElem? hp
          simp only [List.mem_cons, List.not_mem_nil, or_false] at this
          rcases this with rfl | rfl | rfl
          · exact ⟨u, rfl, Lu, hu⟩
          · exact ⟨v, rfl, Lv, by omega⟩
          · exact ⟨b, rfl, Lb, by omega⟩
        obtain ⟨w, rfl, Lw, hw⟩ := hpw
        have e1 : callF prog G 199 5 [.imm (.str w)] = some (.imm (.str (red w)), [.imm (.str w)]) := c_red 198 w Lw (by omega)
        have e2 : callF prog G 199 17 [.imm (.str w)] = some (.imm (.str (red w)), [.imm (.str w)]) := c_lred 197 w Lw (by omega)
        have e3 : callF prog G 199 4 [.imm (.str w)] = some (.imm (.str (iv w)), [.imm (.str w)]) := c_inv 198 w Lw (by omega)
        have e4 : callF prog G 199 18 [.imm (.str w)] = some (.imm (.str (iv w)), [.imm (.str w)]) := c_linv 197 w Lw (by omega)
        have hrw := len_red w
        have e5 : callF prog G 199 7 [.imm (.str (red w))] = some (.imm (.tup [.str (coB (red w)), .str (coI (red w))]), [.imm (.str (red w))]) := c_core 197 (red w) Lw.red (by omega)
        have e6 : callF prog G 199 19 [.imm (.str w)] = some (.imm (.tup [.str (coB w), .str (coI w)]), [.imm (.str w)]) := c_lcore 196 w Lw (by omega)
        have hB : coB (red w) = coB w := by unfold coB; rw [red_red]
        have hI : coI (red w) = coI w := by unfold coI; rw [red_red]
        rw [hB, hI] at e5
        have a1 : callF prog G 199 14 [.imm (.str (red w)), .imm (.str (red w))] = some (.imm (.bl true), [.imm (.str (red w)), .imm (.str (red w))]) := c_alike 0 198 _ trivial
        have a2 : callF prog G 199 14 [.imm (.str (iv w)), .imm (.str (iv w))] = some (.imm (.bl true), [.imm (.str (iv w)), .imm (.str (iv w))]) := c_alike 0 198 _ trivial
        have a3 := c_alike 1 197 _ (al_ss (coB w) (coI w))
        have a3 : callF prog G 199 14 [.imm (.tup [.str (coB w), .str (coI w)]), .imm (.tup [.str (coB w), .str (coI w)])] = some (.imm (.bl true), [.imm (.tup [.str (coB w), .str (coI w)]), .imm (.tup [.str (coB w), .str (coI w)])]) := a3
        generalize P.tup [.str (coB w), .str (coI w)] = T at *
        generalize red w = rw' at *
        generalize iv w = iw at *
        simp -implicitDefEqProofs [stepFf, e1, e2, e3, e4, e5, e6, a1, a2, a3]
      · obtain ⟨x6, hx, rfl⟩ := hi
        obtain ⟨y, rfl⟩ := hx rfl
        exact hR _ ⟨y, rfl⟩
    obtain ⟨x6, rfl⟩ := hr
    refine wp_seq (fun r => r = (.nx, [some S, some (.lst c5), some (.imm (.str u)), some (.imm (.str b)), some (.imm (.int kd)), some (.imm (.str v)), some (.imm x6), none, none, none, none, none, none, none, none, none, none])) (fun R hR => ?_) fun r hr => ?_
    · have e1 : callF prog G 199 6 [.imm (.str u), .imm (.str v)] = some (.imm (.str (red (u ++ v))), [.imm (.str u), .imm (.str v)]) := c_prod 197 u v Lu Lv (by omega)
      have e2 : callF prog G 199 17 [.imm (.str (u ++ v))] = some (.imm (.str (red (u ++ v))), [.imm (.str (u ++ v))]) := c_lred 197 _ (Lu.app Lv) (by rw [List.length_append]; omega)
      have e3 : opSem .add [.imm (.str u), .imm (.str v)] = some (.imm (.str (u ++ v))) := so_adds (le_lineN (by omega))
      have e4 : callF prog G 199 18 [.imm (.str u)] = some (.imm (.str (iv u)), [.imm (.str u)]) := c_linv 197 u Lu (by omega)
      have e5 : opSem .add [.imm (.str u), .imm (.str (iv u))] = some (.imm (.str (u ++ iv u))) := so_adds (le_lineN (by rw [iv_len]; omega))
      have e6 : callF prog G 199 17 [.imm (.str (u ++ iv u))] = some (.imm (.str (red (u ++ iv u))), [.imm (.str (u ++ iv u))]) := c_lred 197 _ (Lu.app Lu.iv) (by rw [List.length_append, iv_len]; omega)
      have hz : red (u ++ iv u) = [] := red_of_eqv (eqv_iv u)
      rw [hz] at e6
      have a1 : callF prog G 199 14 [.imm (.str (red (u ++ v))), .imm (.str (red (u ++ v)))] = some (.imm (.bl true), [.imm (.str (red (u ++ v))), .imm (.str (red (u ++ v)))]) := c_alike 0 198 _ trivial
      generalize red (u ++ v) = r1 at *
      generalize u ++ v = x1 at *
      generalize u ++ iv u = x2 at *
      generalize iv u = x3 at *
      simp -implicitDefEqProofs [e1, e2, e3, e4, e5, e6, a1]
      exact hR _ rfl
    subst hr
    -- what is told
    obtain ⟨told, e1, hT⟩ := c_moved 196 u v Lu Lv (by omega) (by omega)
    have e1 : callF prog G 199 8 [.imm (.str u), .imm (.str v)] = some (.imm told, [.imm (.str u), .imm (.str v)]) := e1
    obtain ⟨f, g, tp, t1, a0, hf, hg, Lf, Lg, hfl, hgl, rfl, ht1, Lt1, ht1l, ha0, htl, ⟨qT, hqT⟩, hne⟩ := told_parts hT (by omega)
    refine wp_seq (fun r => r = (.nx, [some S, some (.lst c5), some (.imm (.str u)), some (.imm (.str b)), some (.imm (.int kd)), some (.imm (.str v)), some (.imm x6), some (.imm (.tup tp)), none, none, none, none, none, none, none, none, none])) (fun R hR => ?_) fun r hr => ?_
    · simp -implicitDefEqProofs [e1]
      exact hR _ rfl
    subst hr
    clear e1 hT
    refine wp_seq (fun r => r = (.nx, [some S, some (.lst c5), some (.imm (.str u)), some (.imm (.str b)), some (.imm (.int kd)), some (.imm (.str v)), some (.imm x6), some (.imm (.tup tp)), none, none, none, none, some (.imm (.str f)), some (.imm (.str g)), none, none, none])) (fun R hR => ?_) fun r hr => ?_
    · have hcu := co_len u
      have hcv := co_len v
      have e1 : callF prog G 199 19 [.imm (.str u)] = some (.imm (.tup [.str (coB u), .str (coI u)]), [.imm (.str u)]) := c_lcore 196 u Lu (by omega)
      have e2 : callF prog G 199 19 [.imm (.str v)] = some (.imm (.tup [.str (coB v), .str (coI v)]), [.imm (.str v)]) := c_lcore 196 v Lv (by omega)
      have e3 : callF prog G 199 20 [.imm (.str (coI u))] = some (.lst ((rots (coI u)).map P.str), [.imm (.str (coI u))]) := c_rots 198 (coI u) (by omega)
      have e4 : callF prog G 199 20 [.imm (.str (coI v))] = some (.lst ((rots (coI v)).map P.str), [.imm (.str (coI v))]) := c_rots 198 (coI v) (by omega)
      obtain ⟨f', tf, h1, e5, _⟩ := sort_rots (coI u) (by omega)
      obtain ⟨g', tg, h2, e6, _⟩ := sort_rots (coI v) (by omega)
      obtain rfl := least_uniq hf h1
      obtain rfl := least_uniq hg h2
      clear h1 h2 hf hg hqT
      generalize (rots (coI u)).map P.str = R1 at *
      generalize (rots (coI v)).map P.str = R2 at *
      generalize coI u = iu at *
      generalize coI v = iv' at *
      generalize coB u = bu at *
      generalize coB v = bv at *
      simp -implicitDefEqProofs [lin, compL, stepCc, at21, at_head, e1, e2, e3, e4, e5, e6]
      exact hR _ rfl
    subst hr
    have j1 : ∀ {p : P} (q : Val p), callF prog G 199 9 [.imm (.str u), .imm (.str v), .imm p] = some (.imm (.bl (ans u v f g q)), [.imm (.str u), .imm (.str v), .imm p]) := fun q => c_judge 195 u v f g Lu Lv (by omega) (by omega) hf hg q
    have j2 : ∀ {p : P} (q : Val p), callF prog G 199 21 [.imm (.str u), .imm (.str v), .imm p] = some (.imm (.bl (ans u v f g q)), [.imm (.str u), .imm (.str v), .imm p]) := fun q => c_ismoved 195 u v f g Lu Lv (by omega) (by omega) hf hg q
    refine wp_seq (fun r => r = (.nx, [some S, some (.lst c5), some (.imm (.str u)), some (.imm (.str b)), some (.imm (.int kd)), some (.imm (.str v)), some (.imm x6), some (.imm (.tup tp)), none, none, none, none, some (.imm (.str f)), some (.imm (.str g)), none, none, none])) (fun R hR => ?_) fun r hr => ?_
    · have e1 := j2 qT
      rw [hqT] at e1
      by_cases hfg : f = g
      · subst hfg
        generalize P.tup tp = tpp at *
        simp -implicitDefEqProofs [e1]
        exact hR _ rfl
      · have hne := hne hfg
        have a3 := c_alike 1 197 _ (al_sss unl f g)
        rw [← hne] at a3
        have a3 : callF prog G 199 14 [.imm (.tup tp), .imm (.tup tp)] = some (.imm (.bl true), [.imm (.tup tp), .imm (.tup tp)]) := a3
        have hl := lits.1
        have hne2 : P.tup [.str unl, .str f, .str g] = .tup tp := hne.symm
        generalize P.tup tp = tpp at *
        simp -implicitDefEqProofs [e1, hl, lin, hfg, hne2, a3]
        exact hR _ rfl
    subst hr
    -- the bent ones
    obtain ⟨ws, hws, hwe⟩ : ∃ ws : List P, ws = [.tup tp, .tup [.str mvd, .str b], .tup [.str mvd, .str (t1 ++ [97])], .tup [.str mvd, .str (t1 ++ [97, 65])], .tup [.str mvd, .str []], .tup [.str a0], .lst tp] ∧ True := ⟨_, rfl, trivial⟩
    obtain ⟨ws2, hws2, hwe2⟩ : ∃ ws2 : List P, ws2 = [.tup [.str unl, .str f, .str g], .tup [.str unl, .str g, .str f], .tup [.str mvd, .str (red (u ++ t1))], .tup [.str mvd, .int 1]] ∧ True := ⟨_, rfl, trivial⟩
    clear hwe hwe2
    have l7 : (7 : Nat) ≤ line := le_lineN (by omega)
    have l4 : (4 : Nat) ≤ line := le_lineN (by omega)
    have l11 : (11 : Nat) ≤ line := le_lineN (by omega)
    have La : Lt [97] := fun c hc => by rw [List.mem_singleton.mp hc]; decide
    have LaA : Lt [97, 65] := fun c hc => by
      simp only [List.mem_cons, List.not_mem_nil, or_false] at hc
      rcases hc with rfl | rfl <;> decide
    have hrl := len_red (u ++ t1)
    rw [List.length_append] at hrl
    have hVal : ∀ p ∈ ws ++ ws2, Nonempty (Val p) := fun p hp => by
      rw [hws, hws2] at hp
      simp only [List.mem_append, List.mem_cons, List.not_mem_nil, or_false] at hp
      rcases hp with (rfl | rfl | rfl | rfl | rfl | rfl | rfl) | rfl | rfl | rfl | rfl
      · exact ⟨qT⟩
      · exact ⟨.mv b Lb (by omega)⟩
      · exact ⟨.mv _ (Lt1.app La) (by simp; omega)⟩
      · exact ⟨.mv _ (Lt1.app LaA) (by simp; omega)⟩
      · exact ⟨.mv [] (fun c hc => nomatch hc) (by simp)⟩
      · exact ⟨.one a0⟩
      · exact ⟨.lst tp⟩
      · exact ⟨.un f g⟩
      · exact ⟨.un g f⟩
      · exact ⟨.mv _ (Lu.app Lt1).red (by omega)⟩
      · exact ⟨.num⟩
    refine wp_seq (fun r => r = (.nx, [some S, some (.lst c5), some (.imm (.str u)), some (.imm (.str b)), some (.imm (.int kd)), some (.imm (.str v)), some (.imm x6), some (.imm (.tup tp)), some (.lst ws), none, none, none, some (.imm (.str f)), some (.imm (.str g)), none, none, none])) (fun R hR => ?_) fun r hr => ?_
    · have e1 : opSem .add [.imm (.str t1), .imm (.str [97])] = some (.imm (.str (t1 ++ [97]))) := so_adds (le_lineN (by simp; omega))
      have e2 : opSem .add [.imm (.str t1), .imm (.str [97, 65])] = some (.imm (.str (t1 ++ [97, 65]))) := so_adds (le_lineN (by simp; omega))
      have e3 : opSem .list [.imm (.tup tp)] = some (.lst tp) := so_lisT (le_lineN (by omega))
      have hR := hR _ rfl
      rw [hws] at hR
      clear hws hVal
      simp -implicitDefEqProofs [lin, lits.1, lits.2.1, ht1, e1, e2, e3, ha0, l7]
      exact hR
    subst hr
    have hlw : ws.length = 7 := by rw [hws] <;> rfl
    have hlw2 : ws2.length = 4 := by rw [hws2] <;> rfl
    refine wp_seq (fun r => r = (.nx, [some S, some (.lst c5), some (.imm (.str u)), some (.imm (.str b)), some (.imm (.int kd)), some (.imm (.str v)), some (.imm x6), some (.imm (.tup tp)), some (.lst (ws ++ ws2)), none, none, none, some (.imm (.str f)), some (.imm (.str g)), none, none, none])) (fun R hR => ?_) fun r hr => ?_
    · have e1 : opSem .add [.imm (.str u), .imm (.str t1)] = some (.imm (.str (u ++ t1))) := so_adds (le_lineN (by omega))
      have e2 : callF prog G 199 17 [.imm (.str (u ++ t1))] = some (.imm (.str (red (u ++ t1))), [.imm (.str (u ++ t1))]) := c_lred 197 _ (Lu.app Lt1) (by rw [List.length_append]; omega)
      have hR := hR _ rfl
      have e3 : mutSem .extend ws [.lst ws2] = some (ws ++ ws2, .non) := by
        simp only [mutSem, elems, Option.bind_some]
        rw [if_pos (by rw [hlw, hlw2]; exact l11)]
      rw [hws2] at e3 hR
      clear hws hVal hlw hlw2
      generalize red (u ++ t1) = r1 at *
      generalize u ++ t1 = x1 at *
      simp -implicitDefEqProofs [lin, lits.1, lits.2.1, ht1, e1, e2, l4, e3]
      exact hR
    subst hr
    generalize ws ++ ws2 = w12 at *
    refine wp_seq (fun r => ∃ x9, r = (.nx, [some S, some (.lst c5), some (.imm (.str u)), some (.imm (.str b)), some (.imm (.int kd)), some (.imm (.str v)), some (.imm x6), some (.imm (.tup tp)), some (.lst w12), x9, none, none, some (.imm (.str f)), some (.imm (.str g)), none, none, none])) (fun R hR => ?_) fun r hr => ?_
    · simp -implicitDefEqProofs [lin]
      refine wp_for (fun i e => ∃ x9, e = [some S, some (.lst c5), some (.imm (.str u)), some (.imm (.str b)), some (.imm (.int kd)), some (.imm (.str v)), some (.imm x6), some (.imm (.tup tp)), some (.lst w12), x9, none, none, some (.imm (.str f)), some (.imm (.str g)), none, none, none]) ⟨none, rfl⟩ (fun i p e hp hi => ?_) (fun e hi => ?_)
      · obtain ⟨x9, rfl⟩ := hi
        obtain ⟨q⟩ := hVal p (List.mem_of_getElem? hp)
        have e1 := j1 q
        have e2 := j2 q
        have e3 := so_reprB (ans u v f g q)
        generalize (if ans u v f g q = true then [84, 114, 117, 101] else [70, 97, 108, 115, 101] : List Nat) = rs at *
        generalize ans u v f g q = aq at *
        simp -implicitDefEqProofs [stepFf, e1, e2, e3]
      · obtain ⟨x9, rfl⟩ := hi
        exact hR _ ⟨x9, rfl⟩
    obtain ⟨x9, rfl⟩ := hr
    clear hVal hws hws2 hlw hlw2 j1 j2 hqT hne
    generalize some (D.lst w12) = x8 at *
    -- the root
    obtain ⟨w, hw⟩ : ∃ w, w = red u := ⟨_, rfl⟩
    have hww : red w = w := by rw [hw, red_red]
    have Lw : Lt w := by rw [hw]; exact Lu.red
    have hwl : w.length ≤ 32 := by have := len_red u; rw [hw]; omega
    refine wp_seq (fun r => r = (.nx, [some S, some (.lst c5), some (.imm (.str u)), some (.imm (.str b)), some (.imm (.int kd)), some (.imm (.str v)), some (.imm (.str w)), some (.imm (.tup tp)), x8, x9, none, none, some (.imm (.str f)), some (.imm (.str g)), none, none, none])) (fun R hR => ?_) fun r hr => ?_
    · have e2 : callF prog G 199 17 [.imm (.str u)] = some (.imm (.str (red u)), [.imm (.str u)]) := c_lred 197 u Lu (by omega)
      rw [← hw] at e2
      simp -implicitDefEqProofs [e2]
      exact hR _ rfl
    subst hr
    clear hw
    by_cases hwe : w = []
    · subst hwe
      subst hS
      simp -implicitDefEqProofs [asgTs, asgT]
      exact hR _ ⟨_, rfl⟩
    refine wp_seq (fun r => r = (.nx, [some S, some (.lst c5), some (.imm (.str u)), some (.imm (.str b)), some (.imm (.int kd)), some (.imm (.str v)), some (.imm (.str w)), some (.imm (.tup tp)), x8, x9, none, none, some (.imm (.str f)), some (.imm (.str g)), none, none, none])) (fun R hR => ?_) fun r hr => ?_
    · simp -implicitDefEqProofs [hwe]
      exact hR _ rfl
    subst hr
    obtain ⟨s, e1, hs0, hsr, hsf⟩ := c_rgroup 196 w Lw (by rw [hww]; exact hwe) (by omega)
    have e1 : callF prog G 199 10 [.imm (.str w)] = some (.imm (.tup [.str (red (coB w ++ (coI w).take s ++ iv (coB w))), .int (((coI w).length / s : Nat) : Int)]), [.imm (.str w)]) := e1
    have hie : coI w ≠ [] := co_ne (by rw [hww]; exact hwe)
    have hco := co_len w
    obtain ⟨m1, m2, m3, m4⟩ := root_max hie hs0 hsr hsf
    have hpow : rpt ((coI w).take s) ((coI w).length / s) = coI w := by
      unfold isRoot at hsr
      rw [Bool.and_eq_true] at hsr
      exact of_decide_eq_true hsr.2
    have hpk := pow_ok hww hpow
    have e2 : callF prog G 199 19 [.imm (.str w)] = some (.imm (.tup [.str (coB w), .str (coI w)]), [.imm (.str w)]) := c_lcore 196 w Lw (by omega)
    have e3 : callF prog G 199 18 [.imm (.str (coB w))] = some (.imm (.str (iv (coB w))), [.imm (.str (coB w))]) := c_linv 197 _ Lw.coB (by omega)
    have htl : ((coI w).take s).length ≤ (coI w).length := by rw [List.length_take]; omega
    have hil := iv_len (coB w)
    have e4 : opSem .add [.imm (.str (coB w)), .imm (.str ((coI w).take s))] = some (.imm (.str (coB w ++ (coI w).take s))) := so_adds (le_lineN (by omega))
    have e5 : opSem .add [.imm (.str (coB w ++ (coI w).take s)), .imm (.str (iv (coB w)))] = some (.imm (.str (coB w ++ (coI w).take s ++ iv (coB w)))) := so_adds (le_lineN (by rw [List.length_append]; omega))
    have hxL : Lt (coB w ++ (coI w).take s ++ iv (coB w)) := (Lw.coB.app (Lw.coI.take s)).app Lw.coB.iv
    have hxl : (coB w ++ (coI w).take s ++ iv (coB w)).length ≤ 32 := by rw [List.length_append, List.length_append]; omega
    have e6 : callF prog G 199 17 [.imm (.str (coB w ++ (coI w).take s ++ iv (coB w)))] = some (.imm (.str (red (coB w ++ (coI w).take s ++ iv (coB w)))), [.imm (.str (coB w ++ (coI w).take s ++ iv (coB w)))]) := c_lred 197 _ hxL (by omega)
    have hrl := len_red (coB w ++ (coI w).take s ++ iv (coB w))
    have hrL := hxL.red
    have hsl : slcSem (.imm (.str (coI w))) none (some (s : Int)) = some (.imm (.str ((coI w).take s))) := by rw [so_slcS (le_lineN (by omega)), cut_0n]
    generalize red (coB w ++ (coI w).take s ++ iv (coB w)) = rt at *
    generalize coB w ++ (coI w).take s ++ iv (coB w) = x1 at *
    generalize coB w ++ (coI w).take s = x0 at *
    generalize iv (coB w) = ib at *
    have hdl : (coI w).length / s ≤ (coI w).length := Nat.div_le_self _ _
    have hfd := so_fdivN (a := (coI w).length) (b := (coI w).length / s) m3 (by omega)
    rw [m2] at hfd
    have e7 : callF prog G 199 22 [.imm (.str rt), .imm (.int (((coI w).length / s : Nat) : Int))] = some (.imm (.str (red (rpt rt ((coI w).length / s)))), [.imm (.str rt), .imm (.int (((coI w).length / s : Nat) : Int))]) := c_power 196 rt _ hrL (by omega) (by omega)
    rw [hpk] at e7
    have a1 := c_alike 1 197 _ (al_si rt (((coI w).length / s : Nat) : Int))
    have a1 : callF prog G 199 14 [.imm (.tup [.str rt, .int (((coI w).length / s : Nat) : Int)]), .imm (.tup [.str rt, .int (((coI w).length / s : Nat) : Int)])] = some (.imm (.bl true), [.imm (.tup [.str rt, .int (((coI w).length / s : Nat) : Int)]), .imm (.tup [.str rt, .int (((coI w).length / s : Nat) : Int)])]) := a1
    -- the greatest number of times
    obtain ⟨tl, htl2⟩ : ∃ tl, tl = ((List.range (coI w).length).map (· + 1)).filter (times (coI w)) := ⟨_, rfl⟩
    have hmem : (coI w).length / s ∈ tl := by
      rw [htl2, List.mem_filter]
      refine ⟨List.mem_map.mpr ⟨(coI w).length / s - 1, List.mem_range.mpr (by omega), by omega⟩, m1⟩
    obtain ⟨mx, hmx, e8, hmax⟩ := so_maxNat (l := tl) (List.ne_nil_of_mem hmem)
    have hmx2 : mx = (coI w).length / s := by
      have h1 := hmax _ hmem
      have hmx := hmx
      rw [htl2, List.mem_filter] at hmx
      obtain ⟨h3, h4⟩ := hmx
      obtain ⟨y, _, rfl⟩ := List.mem_map.mp h3
      have := m4 (y + 1) (by omega) h4
      omega
    rw [hmx2] at e8
    refine wp_seq (fun r => r = (.nx, [some S, some (.lst c5), some (.imm (.str u)), some (.imm (.str b)), some (.imm (.int kd)), some (.imm (.str v)), some (.imm (.str w)), some (.imm (.tup [.str rt, .int (((coI w).length / s : Nat) : Int)])), x8, x9, none, none, some (.imm (.str f)), some (.imm (.str g)), none, none, none])) (fun R hR => ?_) fun r hr => ?_
    · generalize ((((coI w).length / s : Nat)) : Int) = q at *
      simp -implicitDefEqProofs [e1]
      exact hR _ rfl
    subst hr
    refine wp_seq (fun r => r = (.nx, [some S, some (.lst c5), some (.imm (.str u)), some (.imm (.str b)), some (.imm (.int kd)), some (.imm (.str v)), some (.imm (.str w)), some (.imm (.tup [.str rt, .int (((coI w).length / s : Nat) : Int)])), x8, x9, none, none, some (.imm (.str f)), some (.imm (.str g)), none, none, none])) (fun R hR => ?_) fun r hr => ?_
    · generalize ((((coI w).length / s : Nat)) : Int) = q at *
      simp -implicitDefEqProofs [isTy, at20, at21]
      exact hR _ rfl
    subst hr
    refine wp_seq (fun r => r = (.nx, [some S, some (.lst c5), some (.imm (.str u)), some (.imm (.str b)), some (.imm (.int kd)), some (.imm (.str v)), some (.imm (.str w)), some (.imm (.tup [.str rt, .int (((coI w).length / s : Nat) : Int)])), x8, x9, none, none, some (.imm (.str f)), some (.imm (.str g)), some (.imm (.str (coB w))), some (.imm (.str (coI w))), none])) (fun R hR => ?_) fun r hr => ?_
    · generalize ((((coI w).length / s : Nat)) : Int) = q at *
      generalize coI w = i at *
      generalize coB w = b at *
      simp -implicitDefEqProofs [e2]
      exact hR _ rfl
    subst hr
    have hlen := so_lenS (s := coI w) (le_lineN (by omega))
    refine wp_seq (fun r => r = (.nx, [some S, some (.lst c5), some (.imm (.str u)), some (.imm (.str b)), some (.imm (.int kd)), some (.imm (.str v)), some (.imm (.str w)), some (.imm (.tup [.str rt, .int (((coI w).length / s : Nat) : Int)])), x8, x9, some (.lst (nat2 tl)), none, some (.imm (.str f)), some (.imm (.str g)), some (.imm (.str (coB w))), some (.imm (.str (coI w))), none])) (fun R hR => ?_) fun r hr => ?_
    · clear e1 e2 e3 e4 e5 e6 e7 e8 a1 hpk hpow hsl hfd m1 m2 m3 m4 hmem hmx hmax hmx2 hsr hsf
      generalize D.imm (.tup [.str rt, .int (((coI w).length / s : Nat) : Int)]) = x7 at *
      generalize D.imm (.str (coB w)) = x14 at *
      have hil2 : (coI w).length ≤ 32 := by omega
      have hll : (coI w).length ≤ line := le_lineN (by omega)
      generalize coI w = I at *
      have hit := it_rng2 (i := 1) (j := (I.length : Int) + 1) (by omega)
      rw [show ((I.length : Int) + 1 - 1).toNat = I.length by omega] at hit
      simp -implicitDefEqProofs [hlen, hit]
      refine wp_comp (fun i acc e => acc = nat2 (((List.range i).map (· + 1)).filter (times I)) ∧ ∃ x, e = [some S, some (.lst c5), some (.imm (.str u)), some (.imm (.str b)), some (.imm (.int kd)), some (.imm (.str v)), some (.imm (.str w)), some x7, x8, x9, none, none, some (.imm (.str f)), some (.imm (.str g)), some x14, some (.imm (.str I)), x]) ⟨rfl, none, rfl⟩ (fun i p acc e hp hi => ?_) (fun acc e hi => ?_)
      · obtain ⟨rfl, x, rfl⟩ := hi
        have hin : i < I.length := by
          have := (List.getElem?_eq_some_iff.mp hp).1
          simpa using this
        obtain rfl : p = .int (1 + (i : Int)) := by
          rw [List.getElem?_map, List.getElem?_range hin] at hp
          exact (Option.some.inj hp).symm
        obtain ⟨t, ht⟩ : ∃ t, t = i + 1 := ⟨_, rfl⟩
        rw [show (1 : Int) + (i : Int) = (t : Int) by omega]
        have e1 := so_modN (a := I.length) (b := t) (by omega)
        have e2 := so_fdivN (a := I.length) (b := t) (by omega) (by omega)
        have e3 : slcSem (.imm (.str I)) none (some ((I.length / t : Nat) : Int)) = some (.imm (.str (I.take (I.length / t)))) := by rw [so_slcS hll, cut_0n]
        have hml : (I.take (I.length / t)).length * t ≤ 100000 := by
          have h1 : (I.take (I.length / t)).length ≤ 32 := by rw [List.length_take]; omega
          have h2 : t ≤ 32 := by omega
          have := Nat.mul_le_mul h1 h2
          omega
        have e4 : opSem .mul [.imm (.str (I.take (I.length / t))), .imm (.int (t : Int))] = some (.imm (.str (rpt (I.take (I.length / t)) t))) := so_mulW (le_lineN hml) (by omega)
        have hstep : ((List.range (i + 1)).map (· + 1)).filter (times I) = ((List.range i).map (· + 1)).filter (times I) ++ (if times I t then [t] else []) := by
          rw [ht]
          exact filt_succ (times I) i
        have hl2 : (nat2 (((List.range i).map (· + 1)).filter (times I))).length < line := lt_lineN (by
          rw [nat2_len]
          have := List.length_filter_le (times I) ((List.range i).map (· + 1))
          simp at this
          omega)
        rw [hstep]
        have htt : times I t = (decide (I.length % t = 0) && decide (rpt (I.take (I.length / t)) t = I)) := rfl
        have hz : (((I.length % t : Nat) : Int) = 0) = (I.length % t = 0) := propext (by omega)
        rw [htt]
        generalize ((List.range i).map (· + 1)).filter (times I) = acc at *
        generalize rpt (I.take (I.length / t)) t = rr at *
        generalize I.take (I.length / t) = tk at *
        generalize I.length % t = md at *
        generalize ((I.length / t : Nat) : Int) = dv at *
        by_cases hm : md = 0
        · by_cases hr : rr = I
          · rw [decide_eq_true hm, decide_eq_true hr, Bool.and_self, if_pos rfl, ← nat2_snoc]
            generalize nat2 acc = acc at *
            subst hm
            have e1 : opSem .mod [.imm (.int (I.length : Int)), .imm (.int (t : Int))] = some (.imm (.int 0)) := e1
            generalize (t : Int) = t at *
            simp -implicitDefEqProofs [stepCc, hlen, e1, e2, e3, e4, hr, hl2]
          · rw [decide_eq_false hr, Bool.and_false, if_neg (by decide), List.append_nil]
            generalize nat2 acc = acc at *
            subst hm
            have e1 : opSem .mod [.imm (.int (I.length : Int)), .imm (.int (t : Int))] = some (.imm (.int 0)) := e1
            generalize (t : Int) = t at *
            simp -implicitDefEqProofs [stepCc, hlen, e1, e2, e3, e4, hr, hl2]
        · have hz : ((md : Int) = 0) = False := eq_false (by omega)
          rw [decide_eq_false hm, Bool.false_and, if_neg (by decide), List.append_nil]
          generalize nat2 acc = acc at *
          generalize (t : Int) = t at *
          generalize (md : Int) = md at *
          simp -implicitDefEqProofs [stepCc, hlen, e1, hz, hl2]
      · obtain ⟨rfl, x, rfl⟩ := hi
        rw [List.length_map, List.length_range, ← htl2]
        exact hR _ rfl
    subst hr
    generalize nat2 tl = TL at *
    refine wp_seq (fun r => r = (.nx, [some S, some (.lst c5), some (.imm (.str u)), some (.imm (.str b)), some (.imm (.int kd)), some (.imm (.str v)), some (.imm (.str w)), some (.imm (.tup [.str rt, .int (((coI w).length / s : Nat) : Int)])), x8, x9, some (.lst TL), some (.imm (.str rt)), some (.imm (.str f)), some (.imm (.str g)), some (.imm (.str (coB w))), some (.imm (.str (coI w))), none])) (fun R hR => ?_) fun r hr => ?_
    · clear e1 e2 a1 e7
      generalize ((((coI w).length / s : Nat)) : Int) = q at *
      generalize (s : Int) = s' at *
      generalize (coI w).take s = tk at *
      generalize coI w = I at *
      generalize coB w = B at *
      simp -implicitDefEqProofs [hlen, e8, hfd, hsl, e3, e4, e5, e6]
      exact hR _ rfl
    subst hr
    clear e1 e2 e3 e4 e5 e6 hfd hsl hlen
    generalize ((((coI w).length / s : Nat)) : Int) = q at *
    subst hS
    simp -implicitDefEqProofs [lin, e8, e7, a1, asgTs, asgT]
    exact hR _ ⟨_, rfl⟩
  obtain ⟨r, e, rs, rfl⟩ := key
  exact ⟨rs, e⟩
end Sw.k15
theorem PySem.Challenge.cw_signworth_k15_words_that_cancel_holds : PySem.Challenge.rw_signworth_k15_words_that_cancel.Holds := by
  exact Sw.k15.holds_of Sw.k15.law_true
