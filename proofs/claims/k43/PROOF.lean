import PyProof.Rows.All
import Wide.All
import OpenK.AllK
import Wide.FinOn
import HandS.ForMost
import HandS.TupAny
import HandS.Wide
import HandS.IsInst
import HandS.Deep
import HandS.Style
import HandS.TupMul
import KE.KRevSl
import KE.DataAny
import KE.DataFind
import KE.DataIsa
import HandS.Comp
import HandS.Flow
import HandS.Walk
import HandS.Zip
import KE.GoesMore
import KE.GoesEnum
import HandS.Exc
import HandS.Ends
import HandS.HeadHook2
import HandS.HeadEnd
import HandS.Head0
import HandS.Head1
import HandS.Head2
import HandS.Text
import PySem.Challenge.RW_signworth_k43_divided_rows
set_option Elab.async false
set_option linter.all false
set_option maxRecDepth 100000
/-! Sw, part 1: pure data, how they lie in the abstract heap, frames. -/
namespace Sw
open PySem PySem.Spec PyProof.Rows L2

/-- immutable data: None, bool, int, text, tuple, a list that nobody changes -/
inductive P where
  | non | bl (b : Bool) | int (i : Int) | str (s : List Nat) | tup (xs : List P) | lst (xs : List P)
  deriving Inhabited
mutual
def P.beq : P → P → Bool
  | .non, q => (match q with | .non => true | _ => false)
  | .bl a, q => (match q with | .bl b => a == b | _ => false)
  | .int a, q => (match q with | .int b => a == b | _ => false)
  | .str a, q => (match q with | .str b => a == b | _ => false)
  | .tup a, q => (match q with | .tup b => P.beqs a b | _ => false)
  | .lst a, q => (match q with | .lst b => P.beqs a b | _ => false)
def P.beqs : List P → List P → Bool
  | [], q => (match q with | [] => true | _ => false)
  | x :: xs, q => (match q with | y :: ys => P.beq x y && P.beqs xs ys | _ => false)
end
mutual
theorem P.beq_iff : ∀ a b : P, P.beq a b = true ↔ a = b
  | .non, b => by cases b <;> simp [P.beq]
  | .bl _, b => by cases b <;> simp [P.beq]
  | .int _, b => by cases b <;> simp [P.beq]
  | .str _, b => by cases b <;> simp [P.beq]
  | .tup xs, b => by
    cases b with
    | tup ys => simp [P.beq, P.beqs_iff xs ys]
    | _ => simp [P.beq]
  | .lst xs, b => by
    cases b with
    | lst ys => simp [P.beq, P.beqs_iff xs ys]
    | _ => simp [P.beq]
theorem P.beqs_iff : ∀ a b : List P, P.beqs a b = true ↔ a = b
  | [], b => by cases b <;> simp [P.beqs]
  | x :: xs, b => by
    cases b with
    | nil => simp [P.beqs]
    | cons y ys => simp [P.beqs, P.beq_iff x y, P.beqs_iff xs ys]
end
instance : DecidableEq P := fun a b => if h : P.beq a b = true then isTrue ((P.beq_iff a b).mp h) else isFalse fun e => h ((P.beq_iff a b).mpr e)
/-- data: immutable, or an owned list -/
inductive D where
  | imm (p : P) | lst (xs : List P)
  deriving DecidableEq, Inhabited

/-! ### how they lie -/
def Stab (o : HO) : Prop := ¬ Mut (some o)
def FzL (K : PySem.W.Frag) (H : Hp) (a : Addr) (xs : List V) : Prop :=
  (∃ o, H a = some (.frz o (.lst xs))) ∨
    ∃ (o : Obj) (its : Array Value) (n : Nat), K.lookup a = some o ∧ o.cls = .type "list" ∧ o.dict = none ∧ o.data = .seq its n ∧ its.size ≤ sizeLine ∧ Vals xs its.toList
theorem FzL.sql {K : PySem.W.Frag} {H : Hp} {a : Addr} {xs : List V} (h : FzL K H a xs) : SqL K H a xs := by
  rcases h with ⟨o, h⟩ | h
  · exact .inl (.inr ⟨o, h⟩)
  · exact .inr h
/-- what is locked, or made for ever, stays -/
def Keeps (H H' : Hp) : Prop := ∀ a o, H a = some o → Stab o → H' a = some o
theorem Keeps.refl (H : Hp) : Keeps H H := fun _ _ h _ => h
theorem Keeps.trans {H H1 H2 : Hp} (a : Keeps H H1) (b : Keeps H1 H2) : Keeps H H2 := fun c o h s => b c o (a c o h s) s
theorem Keeps.of_same {H H' : Hp} (h : Same H H') : Keeps H H' := fun a o e _ => h a o e
theorem stab_tup {xs : List V} : Stab (.tup xs) := fun h => h
theorem stab_frz {o : Obj} {u : HO} : Stab (.frz o u) := fun h => h
theorem FzL.keep {K : PySem.W.Frag} {H H' : Hp} {a : Addr} {xs : List V} (h : FzL K H a xs) (k : Keeps H H') : FzL K H' a xs := by
  rcases h with ⟨o, h⟩ | h
  · exact .inl ⟨o, k _ _ h stab_frz⟩
  · exact .inr h
theorem sqT_keep {K : PySem.W.Frag} {H H' : Hp} {a : Addr} {xs : List V} (h : SqT K H a xs) (k : Keeps H H') : SqT K H' a xs := by
  rcases h with (h | ⟨o, h⟩) | h
  · exact .inl (.inl (k _ _ h stab_tup))
  · exact .inl (.inr ⟨o, k _ _ h stab_frz⟩)
  · exact .inr h
def sOf (s : List Nat) : Str := ⟨s.toArray⟩
theorem sOf_cps (s : List Nat) : (sOf s).cps.toList = s := by simp [sOf]
theorem sOf_len (s : List Nat) : (sOf s).length = s.length := by simp [sOf, Str.length]
theorem sOf_inj {s t : List Nat} (h : sOf s = sOf t) : s = t := by
  have := congrArg (fun z : Str => z.cps.toList) h
  simpa [sOf] using this
theorem of_cps {x : Str} {s : List Nat} (h : x.cps.toList = s) : x = sOf s := by
  cases x with
  | mk c => simp only [sOf]; congr 1; rw [← h]
def chrOk (s : List Nat) : Bool := s.all (· < 0x110000)
mutual
inductive PRep (K : PySem.W.Frag) (H : Hp) : V → P → Prop
  | non : PRep K H .non .non
  | bl (b : Bool) : PRep K H (.bl b) (.bl b)
  | int (i : Int) : PRep K H (.int i) (.int i)
  | str (s : List Nat) : chrOk s = true → PRep K H (.str (sOf s)) (.str s)
  | tup {a : Addr} {xs : List V} {ps : List P} : SqT K H a xs → PReps K H xs ps → PRep K H (.ref a) (.tup ps)
  | lst {a : Addr} {xs : List V} {ps : List P} : FzL K H a xs → PReps K H xs ps → PRep K H (.ref a) (.lst ps)
inductive PReps (K : PySem.W.Frag) (H : Hp) : List V → List P → Prop
  | nil : PReps K H [] []
  | cons {v : V} {vs : List V} {p : P} {ps : List P} : PRep K H v p → PReps K H vs ps → PReps K H (v :: vs) (p :: ps)
end
section
variable {K : PySem.W.Frag} {H H' : Hp}
mutual
theorem PRep.keep (k : Keeps H H') : ∀ {p : P} {v : V}, PRep K H v p → PRep K H' v p
  | .non, _, h => by cases h; exact .non
  | .bl b, _, h => by cases h; exact .bl b
  | .int i, _, h => by cases h; exact .int i
  | .str s, _, h => by cases h with | str _ c => exact .str s c
  | .tup ps, _, h => by cases h with | tup a b => exact .tup (sqT_keep a k) (PReps.keep k b)
  | .lst ps, _, h => by cases h with | lst a b => exact .lst (a.keep k) (PReps.keep k b)
theorem PReps.keep (k : Keeps H H') : ∀ {ps : List P} {vs : List V}, PReps K H vs ps → PReps K H' vs ps
  | [], _, h => by cases h; exact .nil
  | p :: ps, _, h => by cases h with | cons a b => exact .cons (PRep.keep k a) (PReps.keep k b)
end
theorem PReps.length : ∀ {vs : List V} {ps : List P}, PReps K H vs ps → vs.length = ps.length
  | _, _, .nil => rfl
  | _, _, .cons _ t => by simp [PReps.length t]
theorem PReps.get : ∀ {vs : List V} {ps : List P} {i : Nat} {p : P}, PReps K H vs ps → ps[i]? = some p → ∃ v, vs[i]? = some v ∧ PRep K H v p
  | _, _, i, p, .nil, e => by simp at e
  | _, _, 0, p, .cons r _, e => by simp at e; subst e; exact ⟨_, rfl, r⟩
  | _, _, i + 1, p, .cons _ t, e => by
    obtain ⟨v, h1, h2⟩ := PReps.get (i := i) (p := p) t (by simpa using e)
    exact ⟨v, by simpa using h1, h2⟩
theorem PReps.getV : ∀ {vs : List V} {ps : List P} {i : Nat} {v : V}, PReps K H vs ps → vs[i]? = some v → ∃ p, ps[i]? = some p ∧ PRep K H v p
  | _, _, i, p, .nil, e => by simp at e
  | _, _, 0, p, .cons r _, e => by simp at e; subst e; exact ⟨_, rfl, r⟩
  | _, _, i + 1, p, .cons _ t, e => by
    obtain ⟨v, h1, h2⟩ := PReps.getV (i := i) (v := p) t (by simpa using e)
    exact ⟨v, by simpa using h1, h2⟩
theorem PReps.append : ∀ {vs ws : List V} {ps qs : List P}, PReps K H vs ps → PReps K H ws qs → PReps K H (vs ++ ws) (ps ++ qs)
  | _, _, _, _, .nil, s => s
  | _, _, _, _, .cons r t, s => .cons r (PReps.append t s)
theorem PReps.take : ∀ {vs : List V} {ps : List P} (n : Nat), PReps K H vs ps → PReps K H (vs.take n) (ps.take n)
  | _, _, 0, _ => .nil
  | _, _, _ + 1, .nil => .nil
  | _, _, n + 1, .cons r t => .cons r (PReps.take n t)
theorem PReps.drop : ∀ {vs : List V} {ps : List P} (n : Nat), PReps K H vs ps → PReps K H (vs.drop n) (ps.drop n)
  | _, _, 0, r => r
  | _, _, _ + 1, .nil => .nil
  | _, _, n + 1, .cons _ t => PReps.drop n t
theorem PReps.set {v : V} {p : P} (r : PRep K H v p) : ∀ {vs : List V} {ps : List P} (i : Nat), PReps K H vs ps → PReps K H (vs.set i v) (ps.set i p)
  | _, _, _, .nil => .nil
  | _, _, 0, .cons _ t => .cons r t
  | _, _, i + 1, .cons q t => .cons q (PReps.set r i t)
theorem PReps.dropLast : ∀ {vs : List V} {ps : List P}, PReps K H vs ps → PReps K H vs.dropLast ps.dropLast
  | _, _, .nil => .nil
  | _, _, .cons r .nil => .nil
  | _, _, .cons r (.cons q t) => .cons r (PReps.dropLast (.cons q t))
theorem PReps.eraseIdx : ∀ {vs : List V} {ps : List P} (i : Nat), PReps K H vs ps → PReps K H (vs.eraseIdx i) (ps.eraseIdx i)
  | _, _, _, .nil => .nil
  | _, _, 0, .cons _ t => t
  | _, _, i + 1, .cons q t => .cons q (PReps.eraseIdx i t)
theorem PReps.reverse {vs : List V} {ps : List P} (h : PReps K H vs ps) : PReps K H vs.reverse ps.reverse := by
  induction h using PReps.rec (motive_1 := fun _ _ _ => True) with
  | nil => exact .nil
  | cons r t _ ih => rw [List.reverse_cons, List.reverse_cons]; exact ih.append (.cons r .nil)
  | _ => trivial
theorem PReps.rep {vs : List V} {ps : List P} (h : PReps K H vs ps) : ∀ k : Nat, PReps K H (List.replicate k vs).flatten (List.replicate k ps).flatten
  | 0 => .nil
  | k + 1 => by rw [List.replicate_succ, List.replicate_succ, List.flatten_cons, List.flatten_cons]; exact h.append (h.rep k)
theorem PReps.ints : ∀ ns : List Int, PReps K H (ns.map V.int) (ns.map P.int)
  | [] => .nil
  | n :: ns => .cons (.int n) (PReps.ints ns)
theorem PReps.of_ints : ∀ {ns : List Int} {vs : List V}, PReps K H vs (ns.map P.int) → vs = ns.map V.int
  | [], _, h => by cases h; rfl
  | n :: ns, _, h => by
    cases h with
    | cons a b => cases a; rw [List.map_cons, PReps.of_ints b]
theorem PReps.of_bls : ∀ {ns : List Bool} {vs : List V}, PReps K H vs (ns.map P.bl) → vs = ns.map V.bl
  | [], _, h => by cases h; rfl
  | n :: ns, _, h => by
    cases h with
    | cons a b => cases a; rw [List.map_cons, PReps.of_bls b]
theorem PReps.of_strs : ∀ {ns : List (List Nat)} {vs : List V}, PReps K H vs (ns.map P.str) → vs = (ns.map sOf).map V.str
  | [], _, h => by cases h; rfl
  | n :: ns, _, h => by
    cases h with
    | cons a b => cases a; rw [List.map_cons, List.map_cons, PReps.of_strs b]

/-! ### owned data: F, the objects that are owned -/
inductive Rep (K : PySem.W.Frag) (H : Hp) : V → D → List Addr → Prop
  | imm {v : V} {p : P} : PRep K H v p → Rep K H v (.imm p) []
  | lst {a : Addr} {vs : List V} {ps : List P} : H a = some (.lst vs) → PReps K H vs ps → Rep K H (.ref a) (.lst ps) [a]
inductive Reps (K : PySem.W.Frag) (H : Hp) : List V → List D → List Addr → Prop
  | nil : Reps K H [] [] []
  | cons {v : V} {vs : List V} {d : D} {ds : List D} {F G : List Addr} : Rep K H v d F → Reps K H vs ds G → Reps K H (v :: vs) (d :: ds) (F ++ G)
/-- the names' values: slots that the environment does not know may hold anything -/
inductive EnvRep (K : PySem.W.Frag) (H : Hp) : L2.St → List (Option D) → List Addr → Prop
  | nil : EnvRep K H [] [] []
  | ns {x : Option V} {σ : L2.St} {e : List (Option D)} {F : List Addr} : EnvRep K H σ e F → EnvRep K H (x :: σ) (none :: e) F
  | sm {v : V} {d : D} {σ : L2.St} {e : List (Option D)} {F G : List Addr} : Rep K H v d F → EnvRep K H σ e G → EnvRep K H (some v :: σ) (some d :: e) (F ++ G)
/-- from H, owning F, to H', owning G -/
structure Stp (H : Hp) (F : List Addr) (H' : Hp) (G : List Addr) : Prop where
  keep : ∀ a o, H a = some o → a ∉ F → H' a = some o
  own : ∀ a ∈ G, a ∈ F ∨ H a = none
def MutF (H : Hp) (F : List Addr) : Prop := ∀ a ∈ F, ∃ o, H a = some o ∧ Mut (some o)
theorem Rep.mut {v : V} {d : D} {F : List Addr} (h : Rep K H v d F) : MutF H F := by
  cases h with
  | imm _ => intro a z; cases z
  | lst e _ => intro a z; rw [List.mem_singleton] at z; subst z; exact ⟨_, e, trivial⟩
theorem MutF.append {F G : List Addr} (a : MutF H F) (b : MutF H G) : MutF H (F ++ G) := fun c z => (List.mem_append.mp z).elim (a c) (b c)
theorem Reps.mut {vs : List V} {ds : List D} {F : List Addr} (h : Reps K H vs ds F) : MutF H F := by
  induction h with
  | nil => intro a z; cases z
  | cons r _ ih => exact r.mut.append ih
theorem EnvRep.mut {σ : L2.St} {e : List (Option D)} {F : List Addr} (h : EnvRep K H σ e F) : MutF H F := by
  induction h with
  | nil => intro a z; cases z
  | ns _ ih => exact ih
  | sm r _ ih => exact r.mut.append ih
theorem Rep.mono {v : V} {d : D} {F : List Addr} (h : Rep K H v d F) (k : Keeps H H') (hf : ∀ a ∈ F, H' a = H a) : Rep K H' v d F := by
  cases h with
  | imm r => exact .imm (r.keep k)
  | lst e r => exact .lst (by rw [hf _ (List.mem_singleton.mpr rfl)]; exact e) (r.keep k)
theorem Reps.mono {vs : List V} {ds : List D} {F : List Addr} (h : Reps K H vs ds F) (k : Keeps H H') (hf : ∀ a ∈ F, H' a = H a) : Reps K H' vs ds F := by
  induction h with
  | nil => exact .nil
  | cons r _ ih => exact .cons (r.mono k fun a z => hf a (List.mem_append_left _ z)) (ih fun a z => hf a (List.mem_append_right _ z))
theorem EnvRep.mono {σ : L2.St} {e : List (Option D)} {F : List Addr} (h : EnvRep K H σ e F) (k : Keeps H H') (hf : ∀ a ∈ F, H' a = H a) : EnvRep K H' σ e F := by
  induction h with
  | nil => exact .nil
  | ns _ ih => exact .ns (ih hf)
  | sm r _ ih => exact .sm (r.mono k fun a z => hf a (List.mem_append_left _ z)) (ih fun a z => hf a (List.mem_append_right _ z))
theorem Stp.keeps {F G : List Addr} (s : Stp H F H' G) (m : MutF H F) : Keeps H H' := fun a o e st => s.keep a o e fun z => by
  obtain ⟨o', e', mu⟩ := m a z
  rw [e] at e'; cases e'
  exact st mu
theorem Stp.refl (H : Hp) (F : List Addr) : Stp H F H F := ⟨fun _ _ h _ => h, fun _ z => .inl z⟩
theorem Stp.trans {F G L : List Addr} {H1 H2 : Hp} (s : Stp H F H1 G) (t : Stp H1 G H2 L) : Stp H F H2 L where
  keep := fun a o e n => t.keep a o (s.keep a o e n) fun z => (s.own a z).elim n fun q => by rw [e] at q; cases q
  own := fun a z => (t.own a z).elim (s.own a) fun q => by
    cases r : H a with
    | none => exact .inr rfl
    | some o =>
      by_cases n : a ∈ F
      · exact .inl n
      · rw [s.keep a o r n] at q; cases q
theorem Stp.frame {F G : List Addr} (s : Stp H F H' G) (R : List Addr) : Stp H (F ++ R) H' (G ++ R) where
  keep := fun a o e n => s.keep a o e fun z => n (List.mem_append_left _ z)
  own := fun a z => (List.mem_append.mp z).elim (fun z => (s.own a z).elim (fun y => .inl (List.mem_append_left _ y)) .inr) fun z => .inl (List.mem_append_right _ z)
theorem Stp.frameL {F G : List Addr} (s : Stp H F H' G) (R : List Addr) : Stp H (R ++ F) H' (R ++ G) where
  keep := fun a o e n => s.keep a o e fun z => n (List.mem_append_right _ z)
  own := fun a z => (List.mem_append.mp z).elim (fun z => .inl (List.mem_append_left _ z)) fun z => (s.own a z).elim (fun y => .inl (List.mem_append_right _ y)) .inr
theorem Stp.less {F F1 G G1 : List Addr} (s : Stp H F H' G) (h : ∀ a ∈ F, a ∈ F1) (h' : ∀ a ∈ G1, a ∈ G) : Stp H F1 H' G1 where
  keep := fun a o e n => s.keep a o e fun z => n (h a z)
  own := fun a z => (s.own a (h' a z)).elim (fun y => .inl (h a y)) .inr
theorem Stp.of_same {F : List Addr} (s : Same H H') : Stp H F H' F := ⟨fun a o e _ => s a o e, fun _ z => .inl z⟩
/-- what is not among F, framed -/
theorem Stp.off {F G R : List Addr} (s : Stp H F H' G) (m : MutF H R) (d : ∀ a ∈ R, a ∉ F) : ∀ a ∈ R, H' a = H a := fun a z => by
  obtain ⟨o, e, _⟩ := m a z
  rw [e, s.keep a o e (d a z)]
/-- nothing of R is owned behind -/
theorem Stp.apart {F G R : List Addr} (s : Stp H F H' G) (m : MutF H R) (d : ∀ a ∈ R, a ∉ F) : ∀ a ∈ R, a ∉ G := fun a z y => (s.own a y).elim (d a z) fun q => by
  obtain ⟨o, e, _⟩ := m a z
  rw [e] at q; cases q
end
end Sw
/-! Sw, part 2: the core language and its evaluator. -/
namespace Sw
abbrev line : Nat := 16777216
abbrev En := List (Option D)
def getE (e : En) (i : Nat) : Option D := (e[i]?).join
inductive Opd where
  | tmp (d : D) | slot (i : Nat)
def resv (e : En) : Opd → Option D
  | .tmp d => some d
  | .slot i => getE e i
def resvs (e : En) : List Opd → Option (List D)
  | [] => some []
  | o :: os => (resv e o).bind fun d => (resvs e os).bind fun ds => some (d :: ds)

/-! ### values -/
mutual
/-- Python's == -/
def peq : P → P → Bool
  | .non, q => (match q with | .non => true | _ => false)
  | .bl a, q => (match q with | .bl b => a == b | .int j => (if a then 1 else 0) == j | _ => false)
  | .int i, q => (match q with | .bl b => i == (if b then 1 else 0) | .int j => i == j | _ => false)
  | .str a, q => (match q with | .str b => a == b | _ => false)
  | .tup a, q => (match q with | .tup b => peqs a b | _ => false)
  | .lst a, q => (match q with | .lst b => peqs a b | _ => false)
def peqs : List P → List P → Bool
  | [], q => (match q with | [] => true | _ => false)
  | x :: xs, q => (match q with | y :: ys => peq x y && peqs xs ys | _ => false)
end
mutual
def depth : P → Nat
  | .non => 0
  | .bl _ => 0
  | .int _ => 0
  | .str _ => 0
  | .tup xs => depths xs + 1
  | .lst xs => depths xs + 1
def depths : List P → Nat
  | [] => 0
  | x :: xs => max (depth x) (depths xs)
end
/-- what is read: the owned list as data -/
def rd : D → P
  | .imm p => p
  | .lst ps => .lst ps
def elems : D → Option (List P)
  | .imm (.tup ps) => some ps
  | .imm (.lst ps) => some ps
  | .imm (.str s) => some (s.map fun c => .str [c])
  | .lst ps => some ps
  | _ => none
/-- lists alone -/
def listOf : D → Option (List P)
  | .imm (.lst ps) => some ps
  | .lst ps => some ps
  | _ => none
def seqOf : D → Option (List P)
  | .imm (.tup ps) => some ps
  | d => listOf d
def truth : D → Option Bool
  | .imm .non => some false
  | .imm (.bl b) => some b
  | .imm (.int i) => some (i != 0)
  | .imm (.str s) => if s.length ≤ line then some (!s.isEmpty) else none
  | .imm (.tup ps) => some (!ps.isEmpty)
  | .imm (.lst ps) => some (!ps.isEmpty)
  | .lst ps => some (!ps.isEmpty)
def bI (b : Bool) : Int := if b then 1 else 0
/-- < of two values of one kind -/
def plt : P → P → Option Bool
  | .int i, .int j => some (decide (i < j))
  | .str a, .str b => some (decide (a < b))
  | _, _ => none
inductive Ty where
  | int | bool | str | tuple | list
  deriving DecidableEq
def isTy (p : P) : Ty → Bool
  | .int => (match p with | .int _ => true | .bl _ => true | _ => false)
  | .bool => (match p with | .bl _ => true | _ => false)
  | .str => (match p with | .str _ => true | _ => false)
  | .tuple => (match p with | .tup _ => true | _ => false)
  | .list => (match p with | .lst _ => true | _ => false)
/-- the place of an index -/
def ixP (n : Nat) (i : Int) : Option Nat := if 0 ≤ i then (if i < n then some i.toNat else none) else if -(n : Int) ≤ i then some (i + n).toNat else none
def atP {α : Type} (xs : List α) (i : Int) : Option α := (ixP xs.length i).bind fun j => xs[j]?
/-- a slice's bound -/
def sIxP (n d : Nat) : Option Int → Nat
  | none => d
  | some i => if i < 0 then (i + n).toNat else min i.toNat n
def cutP {α : Type} (xs : List α) (lo hi : Option Int) : List α := (xs.drop (sIxP xs.length 0 lo)).take (sIxP xs.length xs.length hi - sIxP xs.length 0 lo)
/-- where y first stands in x, from a place on -/
def findAt (y : List Nat) : List Nat → Nat → Option Nat
  | [], n => if y.isEmpty then some n else none
  | x :: xs, n => if y.isPrefixOf (x :: xs) then some n else findAt y xs (n + 1)

inductive Op where
  | add | sub | mul | fdiv | mod | neg | pow | xor
  | eq | ne | lt | le | gt | ge | isN | notN | isin | notin | isB | notB
  | idx | rev
  | len | list | tuple | isi (ts : List Ty) | min2 | max2 | int | abs | sum | all | any
  | join | index
  deriving DecidableEq
def mulOk (a b : Int) : Bool := decide (-(2 ^ 64) < a ∧ a < 2 ^ 64) || decide (-(2 ^ 64) < b ∧ b < 2 ^ 64)
def allInts : List P → Option (List Int)
  | [] => some []
  | .int i :: r => (allInts r).map (i :: ·)
  | _ => none
def allBls : List P → Option (List Bool)
  | [] => some []
  | .bl b :: r => (allBls r).map (b :: ·)
  | _ => none
def allStrs : List P → Option (List (List Nat))
  | [] => some []
  | .str b :: r => (allStrs r).map (b :: ·)
  | _ => none
def joinL (sep : List Nat) : List (List Nat) → List Nat
  | [] => []
  | [x] => x
  | x :: y :: r => x ++ sep ++ joinL sep (y :: r)
def ib (b : Bool) : Option D := some (.imm (.bl b))
def ii (i : Int) : Option D := some (.imm (.int i))
def cmpEq (a b : D) : Option Bool := if min (depth (rd a)) (depth (rd b)) ≤ 60 then some (peq (rd a) (rd b)) else none
def opIn (x : D) (y : D) : Option Bool :=
  match x, y with
  | .imm (.str a), .imm (.str b) => some (findAt a b 0).isSome
  | .imm p, .imm (.tup ps) => if min (depths ps) (depth p) ≤ 50 then some (ps.any fun z => peq z p) else none
  | .imm p, .imm (.lst ps) => if min (depths ps) (depth p) ≤ 50 then some (ps.any fun z => peq z p) else none
  | .imm p, .lst ps => if min (depths ps) (depth p) ≤ 50 then some (ps.any fun z => peq z p) else none
  | _, _ => none
def opAdd (x y : D) : Option D :=
  match x, y with
  | .imm (.int a), .imm (.int b) => ii (a + b)
  | .imm (.str a), .imm (.str b) => if a.length + b.length ≤ line then some (.imm (.str (a ++ b))) else none
  | .imm (.tup a), .imm (.tup b) => if a.length + b.length ≤ line then some (.imm (.tup (a ++ b))) else none
  | .lst a, .lst b => if a.length + b.length ≤ line then some (.lst (a ++ b)) else none
  | _, _ => none
def rept {α : Type} (xs : List α) (k : Int) : List α := (List.replicate k.toNat xs).flatten
def opMul (x y : D) : Option D :=
  match x, y with
  | .imm (.int a), .imm (.int b) => if mulOk a b then ii (a * b) else none
  | .imm (.str a), .imm (.int k) => if -(2 ^ 62) ≤ k ∧ k < 2 ^ 62 ∧ a.length * k.toNat ≤ line then some (.imm (.str (rept a k))) else none
  | .lst a, .imm (.int k) => if -(2 ^ 62) ≤ k ∧ k < 2 ^ 62 ∧ a.length * k.toNat ≤ line then some (.lst (rept a k)) else none
  | .imm (.tup a), .imm (.int k) => if -(2 ^ 62) ≤ k ∧ k < 2 ^ 62 ∧ a.length * k.toNat ≤ line then some (.imm (.tup (rept a k))) else none
  | _, _ => none
def opIdx (x y : D) : Option D :=
  match x, y with
  | .imm (.str s), .imm (.int i) => if s.length ≤ line then (atP s i).bind fun c => some (.imm (.str [c])) else none
  | .imm (.tup ps), .imm (.int i) => (atP ps i).bind fun p => some (.imm p)
  | .imm (.lst ps), .imm (.int i) => (atP ps i).bind fun p => some (.imm p)
  | .lst ps, .imm (.int i) => (atP ps i).bind fun p => some (.imm p)
  | _, _ => none
def int2 (f : Int → Int → Option D) (x y : D) : Option D :=
  match x, y with
  | .imm (.int a), .imm (.int b) => f a b
  | _, _ => none
def int1 (f : Int → Option D) (x : D) : Option D :=
  match x with
  | .imm (.int a) => f a
  | _ => none
def opCmpI (f : Int → Int → Bool) (g : List Nat → List Nat → Bool) (x y : D) : Option D :=
  match x, y with
  | .imm (.int i), .imm (.int j) => ib (f i j)
  | .imm (.str a), .imm (.str b) => ib (g a b)
  | _, _ => none
def opInt (x : D) : Option D :=
  match x with
  | .imm (.int i) => ii i
  | .imm (.bl b) => ii (bI b)
  | _ => none
def opLen : D → Option D
  | .imm (.str s) => if s.length ≤ line then ii s.length else none
  | .imm (.tup ps) => ii ps.length
  | .imm (.lst ps) => ii ps.length
  | .lst ps => ii ps.length
  | _ => none
def opRev : D → Option D
  | .imm (.str s) => if s.length ≤ line then some (.imm (.str s.reverse)) else none
  | .imm (.tup ps) => some (.imm (.tup ps.reverse))
  | .imm (.lst ps) => some (.lst ps.reverse)
  | .lst ps => some (.lst ps.reverse)
  | _ => none
def idxOf (x : P) : List P → Option Nat
  | [] => none
  | p :: ps => if peq p x then some 0 else (idxOf x ps).map (· + 1)
def opList (x : D) : Option D := (elems x).bind fun ps => if ps.length ≤ line then some (.lst ps) else none
def opTuple (x : D) : Option D := (elems x).bind fun ps => if ps.length ≤ line then some (.imm (.tup ps)) else none
def opSum (x : D) : Option D := (listOf x).bind fun ps => (allInts ps).bind fun ns => ii ns.sum
def truthP : P → Bool
  | .non => false
  | .bl b => b
  | .int i => i != 0
  | .str s => !s.isEmpty
  | .tup ps => !ps.isEmpty
  | .lst ps => !ps.isEmpty
def fitP : P → Bool
  | .str s => decide (s.length ≤ line)
  | .tup ps => decide (ps.length ≤ line)
  | .lst ps => decide (ps.length ≤ line)
  | _ => true
def opAll (x : D) : Option D := (seqOf x).bind fun ps => if ps.all fitP then ib (ps.all truthP) else none
def opAny (x : D) : Option D := (seqOf x).bind fun ps => if ps.all fitP then ib (ps.any truthP) else none
def opJoin (x y : D) : Option D :=
  match x with
  | .imm (.str sep) => (match y with
    | .imm (.str _) => none
    | _ => (elems y).bind fun ps => (allStrs ps).bind fun ns => if (ns.map List.length).sum + ns.length * sep.length ≤ line then some (.imm (.str (joinL sep ns))) else none)
  | _ => none
def opIndex (x y : D) : Option D :=
  match x, y with
  | .lst ps, .imm p => if min (depths ps) (depth p) ≤ 50 then (idxOf p ps).bind fun k => ii k else none
  | .imm (.lst ps), .imm p => if min (depths ps) (depth p) ≤ 50 then (idxOf p ps).bind fun k => ii k else none
  | _, _ => none
def isB2 (n : Bool) (x y : D) : Option D := match x, y with
  | .imm (.bl a), .imm (.bl b) => ib (if n then !decide (a = b) else decide (a = b))
  | _, _ => none
def opSem : Op → List D → Option D
  | .add, [x, y] => opAdd x y
  | .sub, [x, y] => int2 (fun a b => ii (a - b)) x y
  | .mul, [x, y] => opMul x y
  | .fdiv, [x, y] => int2 (fun a b => if b ≠ 0 ∧ b.natAbs < 1073741824 then ii (a.fdiv b) else none) x y
  | .mod, [x, y] => int2 (fun a b => if b ≠ 0 then ii (a.fmod b) else none) x y
  | .xor, [x, y] => int2 (fun a b => ii (PySem.Builtin.bitXor a b)) x y
  | .isB, [x, y] => isB2 false x y
  | .notB, [x, y] => isB2 true x y
  | .pow, [x, y] => int2 (fun a b => if 0 ≤ b ∧ b ≤ 1000000 ∧ a.natAbs < 2 ^ 64 then ii (a ^ b.toNat) else none) x y
  | .neg, [x] => int1 (fun a => ii (-a)) x
  | .eq, [x, y] => (cmpEq x y).bind ib
  | .ne, [x, y] => (cmpEq x y).bind fun b => ib (!b)
  | .lt, [x, y] => opCmpI (fun i j => decide (i < j)) (fun a b => decide (a < b)) x y
  | .le, [x, y] => opCmpI (fun i j => decide (i ≤ j)) (fun a b => !decide (b < a)) x y
  | .gt, [x, y] => opCmpI (fun i j => decide (j < i)) (fun a b => decide (b < a)) x y
  | .ge, [x, y] => opCmpI (fun i j => decide (j ≤ i)) (fun a b => !decide (a < b)) x y
  | .isN, [x] => ib (decide (x = .imm .non))
  | .notN, [x] => ib (!decide (x = .imm .non))
  | .isin, [x, y] => (opIn x y).bind ib
  | .notin, [x, y] => (opIn x y).bind fun b => ib (!b)
  | .idx, [x, y] => opIdx x y
  | .rev, [x] => opRev x
  | .len, [x] => opLen x
  | .list, [x] => opList x
  | .tuple, [x] => opTuple x
  | .isi ts, [x] => ib (ts.any (isTy (rd x)))
  | .min2, [x, y] => int2 (fun i j => ii (if j < i then j else i)) x y
  | .max2, [x, y] => int2 (fun i j => ii (if j > i then j else i)) x y
  | .int, [x] => opInt x
  | .abs, [x] => int1 (fun i => ii (if i < 0 then -i else i)) x
  | .sum, [x] => opSum x
  | .all, [x] => opAll x
  | .any, [x] => opAny x
  | .join, [x, y] => opJoin x y
  | .index, [x, y] => opIndex x y
  | _, _ => none

/-! ### iterables -/
inductive IK where
  | seq | rng1 | rng2 | rng3 | enum | zip
  deriving DecidableEq
def small62 (i : Int) : Bool := decide (-(2 ^ 62) ≤ i ∧ i < 2 ^ 62)
def zipSem (x y : D) : Option (List P) := (elems x).bind fun ps => (elems y).bind fun qs => some ((ps.zip qs).map fun q => .tup [q.1, q.2])
def items : IK → List D → Option (List P)
  | .seq, [x] => elems x
  | .rng1, [.imm (.int j)] => if small62 j then some ((List.range j.toNat).map fun k : Nat => P.int (k : Int)) else none
  | .rng2, [.imm (.int i), .imm (.int j)] => if small62 i && small62 j then some ((List.range (j - i).toNat).map fun k : Nat => P.int (i + (k : Int))) else none
  | .rng3, [.imm (.int i), .imm (.int j), .imm (.int c)] => if small62 i && small62 j && decide (c = -1) then some ((List.range (i - j).toNat).map fun k : Nat => P.int (i - (k : Int))) else none
  | .enum, [x] => (elems x).map fun ps => ps.zipIdx.map fun q => .tup [.int (q.2 : Int), q.1]
  | .zip, [x, y] => zipSem x y
  | _, _ => none

/-! ### the core -/
inductive Pat where
  | nm (i : Nat) | tp (ps : List Pat)
inductive MOp where
  | append | extend | pop | popAt | remove
  deriving DecidableEq
def mutSem : MOp → List P → List D → Option (List P × P)
  | .append, xs, [.imm p] => if xs.length < line then some (xs ++ [p], .non) else none
  | .extend, xs, [.lst ps] => if xs.length + ps.length ≤ line then some (xs ++ ps, .non) else none
  | .pop, xs, [] => (xs[xs.length - 1]?).map fun p => (xs.dropLast, p)
  | .popAt, xs, [.imm (.int i)] => if xs.length ≤ line then (ixP xs.length i).bind fun j => (xs[j]?).map fun p => (xs.eraseIdx j, p) else none
  | .remove, xs, [.imm p] => if min (depths xs) (depth p) ≤ 50 then (idxOf p xs).map fun j => (xs.eraseIdx j, .non) else none
  | _, _, _ => none
inductive E where
  | nm (i : Nat)
  | cst (p : P)
  | glo (x : Nat)
  | mv (i : Nat)
  | tup (es : List E)
  | lst (es : List E)
  | op (o : Op) (es : List E)
  | mth (o : Op) (a : E) (es : List E)
  | chain (o1 o2 : Op) (a b c : E)
  | and (es : List E)
  | or (es : List E)
  | not (e : E)
  | ife (t a b : E)
  | slc (a : E) (lo hi : Option E)
  | mut (m : MOp) (i : Nat) (es : List E)
  | call (f : Nat) (es : List E)
  | cmp (own : List Nat) (t : Pat) (k : IK) (as : List E) (tests : List E) (elt : E)
  | cmp2 (own own2 : List Nat) (t : Pat) (k : IK) (as : List E) (tests : List E) (t2 : Pat) (k2 : IK) (as2 : List E) (tests2 : List E) (elt : E)
  | frz (e : E)
inductive T where
  | asg (t : Pat) (e : E)
  | par (is : List Nat) (es : List E)
  | aug (i : Nat) (o : Op) (e : E)
  | sto (i : Nat) (ix e : E)
  | augs (i : Nat) (ix : E) (o : Op) (e : E)
  | ex (e : E)
  | ret (e : E)
  | ret0
  | ifs (t : E) (a b : List T)
  | fors (t : Pat) (k : IK) (as : List E) (body : List T)
  | whl (n : Nat) (t : E) (body : List T)
  | brk | cont | pass | never
inductive Fl where
  | nx | rt (d : D) | bk | ct
abbrev CallS := Nat → List D → Option (D × List D)
abbrev M (α : Type) := En → Option (α × En)
def isImm : D → Bool
  | .imm _ => true
  | .lst _ => false
def toImm : D → Option P
  | .imm p => some p
  | .lst _ => none
def toImms : List D → Option (List P)
  | [] => some []
  | d :: ds => (toImm d).bind fun p => (toImms ds).bind fun ps => some (p :: ps)
mutual
/-- a value into a pattern -/
def bindP : Pat → P → En → Option En
  | .nm i, p, e => some (e.set i (some (.imm p)))
  | .tp ts, p, e => (match p with
    | .tup ps => bindPs ts ps e
    | _ => none)
def bindPs : List Pat → List P → En → Option En
  | [], ps, e => (match ps with | [] => some e | _ => none)
  | t :: ts, ps, e => (match ps with
    | p :: ps => (bindP t p e).bind fun e' => bindPs ts ps e'
    | _ => none)
end
/-- the names that are walked stand as they stood -/
def lockOk (os : List Opd) (e e' : En) : Bool := os.all fun o => match o with
  | .tmp _ => true
  | .slot i => decide (getE e' i = getE e i)
def wipeE (e : En) : List Nat → En
  | [] => e
  | i :: is => (wipeE e is).set i none
def keepImm : Option D → Option D
  | some (.imm p) => some (.imm p)
  | _ => none
def putBack (e e0 : En) : List Nat → En
  | [] => e
  | i :: is => putBack (e.set i (keepImm (getE e0 i))) e0 is
/-- what a loop over items makes: the list so far, the names -/
def compL (step : P → List P → En → Option (List P × En)) : List P → List P → En → Option (List P × En)
  | [], acc, e => some (acc, e)
  | p :: ps, acc, e => (step p acc e).bind fun r => compL step ps r.1 r.2
def freeOf (os : List Opd) (own : List Nat) : Bool := os.all fun o => match o with
  | .tmp _ => true
  | .slot i => !own.contains i
def immO : Opd → Option P
  | .tmp (.imm p) => some p
  | _ => none
def immOs : List Opd → Option (List P)
  | [] => some []
  | o :: os => (immO o).bind fun p => (immOs os).bind fun ps => some (p :: ps)
def noSlot (os : List Opd) (i : Nat) : Bool := os.all fun o => match o with
  | .tmp _ => true
  | .slot j => j != i
/-- what the called one has changed goes back to the names -/
def back : List Opd → List D → List D → En → Option En
  | [], ds, rs, e => (match ds, rs with
    | [], [] => some e
    | _, _ => none)
  | o :: os, ds, rs, e => (match ds, rs with
    | d :: ds, r :: rs => (match o with
      | .tmp _ => back os ds rs e
      | .slot i => (match d with
        | .imm _ => back os ds rs e
        | .lst _ => if noSlot os i then (back os ds rs (e.set i none)).bind fun e' => some (e'.set i (some r)) else none))
    | _, _ => none)
/-- the receiver of a method is of its type -/
def rcvOk (o : Op) (d : D) : Bool := match o, d with
  | .join, .imm (.str _) => true
  | .index, .lst _ => true
  | .index, .imm (.lst _) => true
  | _, _ => false
def slcSem (d : D) (l h : Option Int) : Option D := match d with
  | .imm (.str s) => if s.length ≤ line then some (.imm (.str (cutP s l h))) else none
  | .imm (.tup ps) => some (.imm (.tup (cutP ps l h)))
  | .imm (.lst ps) => some (.lst (cutP ps l h))
  | .lst ps => some (.lst (cutP ps l h))
  | _ => none
def frzSem (x : Opd) (e : En) : Option (P × En) := match x with
  | .tmp (.imm p) => some (p, e)
  | .tmp (.lst ps) => some (.lst ps, e)
  | .slot i => (match getE e i with
    | some (.imm p) => some (p, e)
    | some (.lst ps) => some (.lst ps, e.set i (some (.imm (.lst ps))))
    | none => none)
def nmSem (i : Nat) (e : En) : Option Opd := match getE e i with
  | some (.imm p) => some (.tmp (.imm p))
  | some (.lst _) => some (.slot i)
  | none => none
/-- a name's value, the name given up -/
def mvSem (i : Nat) (e : En) : Option (Opd × En) := match getE e i with
  | some (.imm p) => some (.tmp (.imm p), e)
  | some (.lst ps) => some (.tmp (.lst ps), e.set i none)
  | none => none
def mutDo (m : MOp) (i : Nat) (os : List Opd) (e : En) : Option (P × En) := (resvs e os).bind fun ds => match getE e i with
  | some (.lst xs) => if noSlot os i then (mutSem m xs ds).bind fun r => some (r.2, e.set i (some (.lst r.1))) else none
  | _ => none
def intO : Opd → Option Int
  | .tmp (.imm (.int i)) => some i
  | _ => none
mutual
def evo (Φ : CallS) (G : List P) : E → M Opd
  | .nm i, e => (nmSem i e).bind fun o => some (o, e)
  | .cst p, e => some (.tmp (.imm p), e)
  | .glo x, e => (G[x]?).bind fun p => some (.tmp (.imm p), e)
  | .mv i, e => mvSem i e
  | .tup es, e => (evos Φ G es e).bind fun r => (immOs r.1).bind fun ps => if ps.length ≤ line then some (.tmp (.imm (.tup ps)), r.2) else none
  | .lst es, e => (evos Φ G es e).bind fun r => (immOs r.1).bind fun ps => if ps.length ≤ line then some (.tmp (.lst ps), r.2) else none
  | .op o es, e => (evos Φ G es e).bind fun r => (resvs r.2 r.1).bind fun ds => (opSem o ds).bind fun d => some (.tmp d, r.2)
  | .mth o a es, e => (evo Φ G a e).bind fun x => (resv x.2 x.1).bind fun d0 => if rcvOk o d0 then (evos Φ G es x.2).bind fun r => (resvs r.2 (x.1 :: r.1)).bind fun ds => (opSem o ds).bind fun d => some (.tmp d, r.2) else none
  | .chain o1 o2 a b c, e => (evo Φ G a e).bind fun x => (evo Φ G b x.2).bind fun y => (resvs y.2 [x.1, y.1]).bind fun ds => (opSem o1 ds).bind fun r =>
      (match r with
      | .imm (.bl true) => (evo Φ G c y.2).bind fun z => (resvs z.2 [y.1, z.1]).bind fun ds => (opSem o2 ds).bind fun d => some (.tmp d, z.2)
      | .imm (.bl false) => some (.tmp (.imm (.bl false)), y.2)
      | _ => none)
  | .and es, e => evand Φ G es e
  | .or es, e => evor Φ G es e
  | .not a, e => (evo Φ G a e).bind fun x => (resv x.2 x.1).bind fun d => (truth d).bind fun b => some (.tmp (.imm (.bl (!b))), x.2)
  | .ife t a b, e => (evo Φ G t e).bind fun x => (resv x.2 x.1).bind fun d => (truth d).bind fun k => if k then evo Φ G a x.2 else evo Φ G b x.2
  | .slc a lo hi, e => (evo Φ G a e).bind fun x => (evopt Φ G lo x.2).bind fun l => (evopt Φ G hi l.2).bind fun h => (resv h.2 x.1).bind fun d => (slcSem d l.1 h.1).bind fun r => some (.tmp r, h.2)
  | .mut m i es, e => (getE e i).bind fun d0 => (listOf d0).bind fun _ => (evos Φ G es e).bind fun r => (mutDo m i r.1 r.2).bind fun q => some (.tmp (.imm q.1), q.2)
  | .call f es, e => (evos Φ G es e).bind fun r => (resvs r.2 r.1).bind fun ds => (Φ f ds).bind fun q => (back r.1 ds q.2 r.2).bind fun e2 => some (.tmp q.1, e2)
  | .cmp own t k as tests elt, e => (evos Φ G as e).bind fun r => (resvs r.2 r.1).bind fun ds => (items k ds).bind fun ps =>
      if freeOf r.1 own then
        (compL (fun p acc e2 => (bindP t p e2).bind fun e3 => (evtests Φ G tests e3).bind fun b =>
          if b.1 then (evo Φ G elt b.2).bind fun x => (immO x.1).bind fun q => if lockOk r.1 r.2 x.2 ∧ acc.length < line then some (acc ++ [q], wipeE x.2 own) else none
          else if lockOk r.1 r.2 b.2 then some (acc, wipeE b.2 own) else none) ps [] (wipeE r.2 own)).bind fun z => some (.tmp (.lst z.1), putBack z.2 r.2 own)
      else none
  | .cmp2 own own2 t k as tests t2 k2 as2 tests2 elt, e => (evos Φ G as e).bind fun r => (resvs r.2 r.1).bind fun ds => (items k ds).bind fun ps =>
      if freeOf r.1 own then
        (compL (fun p acc e2 => (bindP t p e2).bind fun e3 => (evtests Φ G tests e3).bind fun b =>
          if b.1 then (evos Φ G as2 b.2).bind fun r2 => (resvs r2.2 r2.1).bind fun ds2 => (items k2 ds2).bind fun ps2 =>
            if freeOf r2.1 own ∧ lockOk r.1 r.2 r2.2 then
              (compL (fun p2 acc2 e6 => (bindP t2 p2 e6).bind fun e7 => (evtests Φ G tests2 e7).bind fun b2 =>
                if b2.1 then (evo Φ G elt b2.2).bind fun x => (immO x.1).bind fun q => if lockOk r2.1 r2.2 x.2 ∧ lockOk r.1 r.2 x.2 ∧ acc2.length < line then some (acc2 ++ [q], wipeE x.2 own2) else none
                else if lockOk r2.1 r2.2 b2.2 ∧ lockOk r.1 r.2 b2.2 then some (acc2, wipeE b2.2 own2) else none) ps2 acc (wipeE r2.2 own2)).bind fun z => some (z.1, wipeE z.2 own)
            else none
          else if lockOk r.1 r.2 b.2 then some (acc, wipeE b.2 own) else none) ps [] (wipeE r.2 own)).bind fun z => some (.tmp (.lst z.1), putBack z.2 r.2 own)
      else none
  | .frz a, e => (evo Φ G a e).bind fun x => (frzSem x.1 x.2).bind fun q => some (.tmp (.imm q.1), q.2)
def evos (Φ : CallS) (G : List P) : List E → M (List Opd)
  | [], e => some ([], e)
  | a :: as, e => (evo Φ G a e).bind fun x => (evos Φ G as x.2).bind fun xs => some (x.1 :: xs.1, xs.2)
def evopt (Φ : CallS) (G : List P) : Option E → M (Option Int)
  | none, e => some (none, e)
  | some a, e => (evo Φ G a e).bind fun x => (intO x.1).bind fun i => some (some i, x.2)
def evand (Φ : CallS) (G : List P) : List E → M Opd
  | [], _ => none
  | a :: as, e => (match as with
    | [] => evo Φ G a e
    | _ :: _ => (evo Φ G a e).bind fun x => (resv x.2 x.1).bind fun d => (truth d).bind fun b => if b then evand Φ G as x.2 else some x)
def evor (Φ : CallS) (G : List P) : List E → M Opd
  | [], _ => none
  | a :: as, e => (match as with
    | [] => evo Φ G a e
    | _ :: _ => (evo Φ G a e).bind fun x => (resv x.2 x.1).bind fun d => (truth d).bind fun b => if b then some x else evor Φ G as x.2)
def evtests (Φ : CallS) (G : List P) : List E → M Bool
  | [], e => some (true, e)
  | a :: as, e => (match as with
    | [] => (evo Φ G a e).bind fun x => (resv x.2 x.1).bind fun d => (truth d).bind fun b => some (b, x.2)
    | _ :: _ => none)
end
/-! ### statements -/
def whlL (step : En → Option (Bool × Fl × En)) : Nat → En → Option (Fl × En)
  | 0, _ => none
  | n + 1, e => (step e).bind fun r => if r.1 then (match r.2.1 with
      | .nx => whlL step n r.2.2
      | .ct => whlL step n r.2.2
      | .bk => some (.nx, r.2.2)
      | .rt d => some (.rt d, r.2.2)) else some (.nx, r.2.2)
def forL (step : P → En → Option (Fl × En)) (ok : En → Bool) : List P → En → Option (Fl × En)
  | [], e => some (.nx, e)
  | p :: ps, e => (step p e).bind fun r => match r.1 with
      | .nx => if ok r.2 then forL step ok ps r.2 else none
      | .ct => if ok r.2 then forL step ok ps r.2 else none
      | .bk => some (.nx, r.2)
      | .rt d => some (.rt d, r.2)
def stoSem (i : Nat) (k : P) (p : P) (e : En) : Option En := match getE e i, k with
  | some (.lst xs), .int j => (ixP xs.length j).bind fun n => some (e.set i (some (.lst (xs.set n p))))
  | _, _ => none
def asgD (t : Pat) (o : Opd) (e : En) : Option En := match o with
  | .tmp (.imm p) => bindP t p e
  | .tmp (.lst ps) => (match t with
    | .nm i => some (e.set i (some (.lst ps)))
    | .tp _ => none)
  | .slot _ => none
def setAll : List Nat → List Opd → En → Option En
  | [], [], e => some e
  | i :: is, .tmp d :: os, e => setAll is os (e.set i (some d))
  | _, _, _ => none
def retD (o : Opd) (e : En) : Option (Fl × En) := match o with
  | .tmp d => some (.rt d, e)
  | .slot i => (getE e i).bind fun d => some (.rt d, e.set i none)
/-- x op= y -/
def augSem (o : Op) (x y : D) : Option D := match o, x, y with
  | .add, .imm (.int a), .imm (.int b) => ii (a + b)
  | .add, .imm (.str a), .imm (.str b) => if a.length + b.length ≤ line then some (.imm (.str (a ++ b))) else none
  | .sub, .imm (.int a), .imm (.int b) => ii (a - b)
  | _, _, _ => none
/- the names that a statement gives anew -/
mutual
def asgP : Pat → List Nat
  | .nm i => [i]
  | .tp ts => asgPs ts
def asgPs : List Pat → List Nat
  | [] => []
  | t :: ts => asgP t ++ asgPs ts
end
mutual
def asgT : T → List Nat
  | .asg t _ => asgP t
  | .par is _ => is
  | .aug i _ _ => [i]
  | .ifs _ a b => asgTs a ++ asgTs b
  | .fors t _ _ body => asgP t ++ asgTs body
  | .whl _ _ body => asgTs body
  | _ => []
def asgTs : List T → List Nat
  | [] => []
  | a :: as => asgT a ++ asgTs as
end
mutual
def ex (Φ : CallS) (G : List P) : T → En → Option (Fl × En)
  | .asg t a, e => (evo Φ G a e).bind fun x => (asgD t x.1 x.2).bind fun e' => some (.nx, e')
  | .par is es, e => (evos Φ G es e).bind fun r => (setAll is r.1 r.2).bind fun e' => some (.nx, e')
  | .aug i o a, e => (nmSem i e).bind fun u => (evo Φ G a e).bind fun y => (resvs y.2 [u, y.1]).bind fun ds => (match ds with
      | [du, dy] => augSem o du dy
      | _ => none).bind fun d => some (.nx, y.2.set i (some d))
  | .sto i k a, e => (evo Φ G a e).bind fun x => (immO x.1).bind fun p => (getE x.2 i).bind fun _ => (evo Φ G k x.2).bind fun y => (immO y.1).bind fun q => (stoSem i q p y.2).bind fun e' => some (.nx, e')
  | .augs _ _ _ _, _ => none
  | .ex a, e => (evo Φ G a e).bind fun x => some (.nx, x.2)
  | .ret a, e => (evo Φ G a e).bind fun x => retD x.1 x.2
  | .ret0, e => some (.rt (.imm .non), e)
  | .ifs t a b, e => (evo Φ G t e).bind fun x => (resv x.2 x.1).bind fun d => (truth d).bind fun k => if k then exs Φ G a x.2 else exs Φ G b x.2
  | .fors t k as body, e => (evos Φ G as e).bind fun r => (resvs r.2 r.1).bind fun ds => (items k ds).bind fun ps =>
      if freeOf r.1 (asgP t ++ asgTs body) then forL (fun p e2 => (bindP t p e2).bind fun e3 => exs Φ G body e3) (fun e' => lockOk r.1 r.2 e') ps r.2 else none
  | .whl n t body, e => whlL (fun e => (evo Φ G t e).bind fun x => (resv x.2 x.1).bind fun d => (truth d).bind fun k => if k then (exs Φ G body x.2).bind fun r => some (true, r.1, r.2) else some (false, .nx, x.2)) n e
  | .brk, e => some (.bk, e)
  | .cont, e => some (.ct, e)
  | .pass, e => some (.nx, e)
  | .never, _ => none
def exs (Φ : CallS) (G : List P) : List T → En → Option (Fl × En)
  | [], e => some (.nx, e)
  | a :: as, e => (ex Φ G a e).bind fun r => match r.1 with
      | .nx => exs Φ G as r.2
      | f => some (f, r.2)
end
/-! ### functions -/
structure Fn where
  np : Nat
  n : Nat
  body : List T
/-- what stands at a parameter behind the call: i its place, as the argument was -/
def outs (asg : List Nat) (e : En) : List D → Nat → Option (List D)
  | [], _ => some []
  | d :: ds, i => (match d with
    | .imm _ => some d
    | .lst _ => if asg.contains i then none else getE e i).bind fun r => (outs asg e ds (i + 1)).bind fun rs => some (r :: rs)
def callF (prog : List Fn) (G : List P) : Nat → CallS
  | 0, _, _ => none
  | k + 1, f, args => (prog[f]?).bind fun fn => if args.length = fn.np then
      (exs (callF prog G k) G fn.body (args.map some ++ List.replicate (fn.n - fn.np) none)).bind fun r => match r.1 with
        | .nx => (outs (asgTs fn.body) r.2 args 0).bind fun rs => some (.imm .non, rs)
        | .rt d => (outs (asgTs fn.body) r.2 args 0).bind fun rs => some (d, rs)
        | _ => none
      else none
end Sw
/-! Sw, part 3: frames for operands, names and ends. -/
namespace Sw
open PySem PySem.Spec PyProof.Rows L2
section
variable {K : PySem.W.Frag} {H H1 H2 H3 H' : Hp}
inductive PkAll (K : PySem.W.Frag) (H : Hp) : List V → List D → Prop
  | nil : PkAll K H [] []
  | cons {v : V} {vs : List V} {d : D} {ds : List D} : (∃ F, Rep K H v d F) → PkAll K H vs ds → PkAll K H (v :: vs) (d :: ds)
/-- an operand: a value of its own, or what a name holds -/
def ORep (K : PySem.W.Frag) (H : Hp) (σ : L2.St) (v : V) (o : Opd) (F : List Addr) : Prop := match o with
  | .tmp d => Rep K H v d F
  | .slot i => σ[i]? = some (some v) ∧ F = []
inductive ORs (K : PySem.W.Frag) (H : Hp) (σ : L2.St) : List V → List Opd → List Addr → Prop
  | nil : ORs K H σ [] [] []
  | cons {v : V} {vs : List V} {o : Opd} {os : List Opd} {F G : List Addr} : ORep K H σ v o F → ORs K H σ vs os G → ORs K H σ (v :: vs) (o :: os) (F ++ G)
theorem ORep.mut {σ : L2.St} {v : V} {o : Opd} {F : List Addr} (h : ORep K H σ v o F) : MutF H F := by
  cases o with
  | tmp d => exact Rep.mut (show Rep K H v d F from h)
  | slot i => obtain ⟨_, e⟩ := (show σ[i]? = some (some v) ∧ F = [] from h); subst e; intro a z; cases z
theorem ORep.mono {σ : L2.St} {v : V} {o : Opd} {F : List Addr} (h : ORep K H σ v o F) (k : Keeps H H') (hf : ∀ a ∈ F, H' a = H a) : ORep K H' σ v o F := by
  cases o with
  | tmp d => exact Rep.mono (show Rep K H v d F from h) k hf
  | slot i => exact h
theorem ORs.mut {σ : L2.St} {vs : List V} {os : List Opd} {F : List Addr} (h : ORs K H σ vs os F) : MutF H F := by
  induction h with
  | nil => intro a z; cases z
  | cons r _ ih => exact r.mut.append ih
theorem ORs.mono {σ : L2.St} {vs : List V} {os : List Opd} {F : List Addr} (h : ORs K H σ vs os F) (k : Keeps H H') (hf : ∀ a ∈ F, H' a = H a) : ORs K H' σ vs os F := by
  induction h with
  | nil => exact .nil
  | cons r _ ih => exact .cons (r.mono k fun a z => hf a (List.mem_append_left _ z)) (ih fun a z => hf a (List.mem_append_right _ z))

/-! ### lists of addresses -/
theorem nd_left {F G : List Addr} (h : (F ++ G).Nodup) : F.Nodup := (List.nodup_append.mp h).1
theorem nd_right {F G : List Addr} (h : (F ++ G).Nodup) : G.Nodup := (List.nodup_append.mp h).2.1
theorem nd_off {F G : List Addr} (h : (F ++ G).Nodup) : ∀ a ∈ F, a ∉ G := fun a z y => (List.nodup_append.mp h).2.2 a z a y rfl
theorem nd_mk {F G : List Addr} (a : F.Nodup) (b : G.Nodup) (c : ∀ x ∈ F, x ∉ G) : (F ++ G).Nodup := List.nodup_append.mpr ⟨a, b, fun x hx y hy e => c x hx (e ▸ hy)⟩
/-- a value that waits, and a step of the rest -/
theorem stp_two {F Fd F1 G : List Addr} (s1 : Stp H F H1 (Fd ++ F1)) (n1 : (Fd ++ F1).Nodup) (md : MutF H1 Fd) (s2 : Stp H1 F1 H2 G) (n2 : G.Nodup) : Stp H F H2 (Fd ++ G) ∧ (Fd ++ G).Nodup :=
  ⟨s1.trans (s2.frameL Fd), nd_mk (nd_left n1) n2 (s2.apart md (nd_off n1))⟩
theorem stp_keep {F1 G Fd : List Addr} (s2 : Stp H1 F1 H2 G) (m1 : MutF H1 F1) (md : MutF H1 Fd) (n1 : (Fd ++ F1).Nodup) : Keeps H1 H2 ∧ ∀ a ∈ Fd, H2 a = H1 a :=
  ⟨s2.keeps m1, s2.off md (nd_off n1)⟩
/-- new objects alone, what waited is dropped -/
theorem stp_new {F Fs F2 F3 : List Addr} (s : Stp H F H2 (Fs ++ F2)) (n : (Fs ++ F2).Nodup) (m : MutF H2 F2) (sm : Same H2 H3) (fr : ∀ a ∈ F3, H2 a = none) (n3 : F3.Nodup) : Stp H F H3 (F3 ++ F2) ∧ (F3 ++ F2).Nodup := by
  refine ⟨s.trans ⟨fun a o e _ => sm a o e, fun a z => ?_⟩, nd_mk n3 (nd_right n) fun a z y => ?_⟩
  · rcases List.mem_append.mp z with z | z
    · exact .inr (fr a z)
    · exact .inl (List.mem_append_right _ z)
  · obtain ⟨o, e, _⟩ := m a y
    rw [fr a z] at e; cases e
theorem same_off {F : List Addr} (sm : Same H H') (m : MutF H F) : ∀ a ∈ F, H' a = H a := fun a z => by
  obtain ⟨o, e, _⟩ := m a z
  rw [e, sm a o e]
theorem EnvRep.same {σ : L2.St} {e : En} {F : List Addr} (h : EnvRep K H σ e F) (sm : Same H H') : EnvRep K H' σ e F := h.mono (Keeps.of_same sm) (same_off sm h.mut)
theorem Rep.same {v : V} {d : D} {F : List Addr} (h : Rep K H v d F) (sm : Same H H') : Rep K H' v d F := h.mono (Keeps.of_same sm) (same_off sm h.mut)

/-! ### names -/
theorem EnvRep.len {σ : L2.St} {e : En} {F : List Addr} (h : EnvRep K H σ e F) : σ.length = e.length := by
  induction h with
  | nil => rfl
  | ns _ ih => simp [ih]
  | sm _ _ ih => simp [ih]
theorem getE_nil (i : Nat) : getE [] i = none := by simp [getE]
theorem getE_zero (x : Option D) (e : En) : getE (x :: e) 0 = x := by simp [getE]
theorem getE_succ (x : Option D) (e : En) (i : Nat) : getE (x :: e) (i + 1) = getE e i := by simp [getE]
theorem EnvRep.get {σ : L2.St} {e : En} {F : List Addr} (h : EnvRep K H σ e F) : ∀ {i : Nat} {d : D}, getE e i = some d → ∃ v Fi, σ[i]? = some (some v) ∧ Rep K H v d Fi ∧ ∀ a ∈ Fi, a ∈ F := by
  induction h with
  | nil => intro i d q; rw [getE_nil] at q; cases q
  | ns _ ih =>
    intro i d q
    cases i with
    | zero => rw [getE_zero] at q; cases q
    | succ i =>
      rw [getE_succ] at q
      obtain ⟨v, Fi, h1, h2, h3⟩ := ih q
      exact ⟨v, Fi, by simpa using h1, h2, h3⟩
  | @sm v0 d0 σ0 e0 F0 G0 r _ ih =>
    intro i d q
    cases i with
    | zero =>
      rw [getE_zero] at q
      cases q
      exact ⟨v0, F0, rfl, r, fun a z => List.mem_append_left _ z⟩
    | succ i =>
      rw [getE_succ] at q
      obtain ⟨v, Fi, h1, h2, h3⟩ := ih q
      exact ⟨v, Fi, by simpa using h1, h2, fun a z => List.mem_append_right _ (h3 a z)⟩
theorem EnvRep.setD {σ : L2.St} {e : En} {F Fd : List Addr} {v : V} {d : D} (h : EnvRep K H σ e F) (r : Rep K H v d Fd) : ∀ (i : Nat), ∃ F', EnvRep K H (σ.set i (some v)) (e.set i (some d)) F' ∧ (∀ a ∈ F', a ∈ Fd ∨ a ∈ F) ∧ ((Fd ++ F).Nodup → F'.Nodup) := by
  induction h with
  | nil => intro i; exact ⟨[], .nil, fun a z => .inr z, fun _ => List.nodup_nil⟩
  | @ns x0 σ0 e0 F0 h0 ih =>
    intro i
    cases i with
    | zero => exact ⟨Fd ++ F0, .sm r h0, fun a z => List.mem_append.mp z, fun n => n⟩
    | succ i =>
      obtain ⟨F', h1, h2, h3⟩ := ih i
      exact ⟨F', .ns h1, h2, h3⟩
  | @sm v0 d0 σ0 e0 F0 G0 r0 h0 ih =>
    intro i
    cases i with
    | zero =>
      refine ⟨Fd ++ G0, .sm r h0, fun a z => (List.mem_append.mp z).elim .inl fun z => .inr (List.mem_append_right _ z), fun n => ?_⟩
      refine nd_mk (nd_left n) (nd_right (nd_right n)) fun a z y => nd_off n a z (List.mem_append_right _ y)
    | succ i =>
      obtain ⟨F', h1, h2, h3⟩ := ih i
      refine ⟨F0 ++ F', .sm r0 h1, fun a z => (List.mem_append.mp z).elim (fun z => .inr (List.mem_append_left _ z)) fun z => (h2 a z).elim .inl fun z => .inr (List.mem_append_right _ z), fun n => ?_⟩
      have nG : (Fd ++ G0).Nodup := nd_mk (nd_left n) (nd_right (nd_right n)) fun a z y => nd_off n a z (List.mem_append_right _ y)
      refine nd_mk (nd_left (nd_right n)) (h3 nG) fun a z y => ?_
      rcases h2 a y with q | q
      · exact nd_off n a q (List.mem_append_left _ z)
      · exact nd_off (nd_right n) a z q
theorem EnvRep.setN {σ : L2.St} {e : En} {F : List Addr} (h : EnvRep K H σ e F) : ∀ (i : Nat), ∃ F', EnvRep K H σ (e.set i none) F' ∧ (∀ a ∈ F', a ∈ F) ∧ (F.Nodup → F'.Nodup) := by
  induction h with
  | nil => intro i; exact ⟨[], .nil, fun a z => z, fun _ => List.nodup_nil⟩
  | @ns x0 σ0 e0 F0 h0 ih =>
    intro i
    cases i with
    | zero => exact ⟨F0, .ns h0, fun a z => z, fun n => n⟩
    | succ i =>
      obtain ⟨F', h1, h2, h3⟩ := ih i
      exact ⟨F', .ns h1, h2, h3⟩
  | @sm v0 d0 σ0 e0 F0 G0 r0 h0 ih =>
    intro i
    cases i with
    | zero => exact ⟨G0, .ns h0, fun a z => List.mem_append_right _ z, fun n => nd_right n⟩
    | succ i =>
      obtain ⟨F', h1, h2, h3⟩ := ih i
      refine ⟨F0 ++ F', .sm r0 h1, fun a z => (List.mem_append.mp z).elim (fun z => List.mem_append_left _ z) fun z => List.mem_append_right _ (h2 a z), fun n => ?_⟩
      exact nd_mk (nd_left n) (h3 (nd_right n)) fun a z y => nd_off n a z (h2 a y)
/-- the slot's own value taken out: its objects and those of the others -/
theorem EnvRep.out {σ : L2.St} {e : En} {F : List Addr} (h : EnvRep K H σ e F) : ∀ {i : Nat} {d : D}, getE e i = some d → ∃ v Fi F', σ[i]? = some (some v) ∧ Rep K H v d Fi ∧ EnvRep K H σ (e.set i none) F' ∧ (∀ a, a ∈ Fi ++ F' → a ∈ F) ∧ (F.Nodup → (Fi ++ F').Nodup) := by
  induction h with
  | nil => intro i d q; rw [getE_nil] at q; cases q
  | @ns x0 σ0 e0 F0 h0 ih =>
    intro i d q
    cases i with
    | zero => rw [getE_zero] at q; cases q
    | succ i =>
      rw [getE_succ] at q
      obtain ⟨v, Fi, F', h1, h2, h3, h4, h5⟩ := ih q
      exact ⟨v, Fi, F', by simpa using h1, h2, .ns h3, h4, h5⟩
  | @sm v0 d0 σ0 e0 F0 G0 r h0 ih =>
    intro i d q
    cases i with
    | zero =>
      rw [getE_zero] at q
      cases q
      exact ⟨v0, F0, G0, rfl, r, .ns h0, fun a z => z, fun n => n⟩
    | succ i =>
      rw [getE_succ] at q
      obtain ⟨v, Fi, F', h1, h2, h3, h4, h5⟩ := ih q
      refine ⟨v, Fi, F0 ++ F', by simpa using h1, h2, .sm r h3, fun a z => ?_, fun n => ?_⟩
      · rcases List.mem_append.mp z with z | z
        · exact List.mem_append_right _ (h4 a (List.mem_append_left _ z))
        · rcases List.mem_append.mp z with z | z
          · exact List.mem_append_left _ z
          · exact List.mem_append_right _ (h4 a (List.mem_append_right _ z))
      · have n5 := h5 (nd_right n)
        refine nd_mk (nd_left n5) (nd_mk (nd_left n) (nd_right n5) fun a z y => nd_off n a z (h4 a (List.mem_append_right _ y))) fun a z y => ?_
        rcases List.mem_append.mp y with y | y
        · exact nd_off n a y (h4 a (List.mem_append_left _ z))
        · exact nd_off n5 a z y
/-- .. and put in again, at the same object -/
theorem EnvRep.into {σ : L2.St} {e : En} {F' Fi : List Addr} {v : V} {d : D} : ∀ {i : Nat}, EnvRep K H σ (e.set i none) F' → σ[i]? = some (some v) → Rep K H v d Fi → ∃ F, EnvRep K H σ (e.set i (some d)) F ∧ (∀ a, a ∈ F ↔ a ∈ Fi ++ F') ∧ ((Fi ++ F').Nodup → F.Nodup) := by
  intro i
  induction e generalizing σ F' i with
  | nil => intro h; cases h; intro q; simp at q
  | cons x e ih =>
    intro h q r
    cases i with
    | zero =>
      rw [List.set_cons_zero] at h
      cases h with
      | ns h =>
        simp at q
        subst q
        exact ⟨Fi ++ F', .sm r h, fun a => Iff.rfl, fun n => n⟩
    | succ i =>
      rw [List.set_cons_succ] at h
      cases h with
      | ns h =>
        obtain ⟨F, h1, h2, h3⟩ := ih h (by simpa using q) r
        exact ⟨F, .ns h1, h2, h3⟩
      | @sm v0 d0 σ0 _ F0 G0 r0 h =>
        obtain ⟨F, h1, h2, h3⟩ := ih h (by simpa using q) r
        refine ⟨F0 ++ F, .sm r0 h1, fun a => ?_, fun n => ?_⟩
        · simp only [List.mem_append, h2]
          constructor
          · rintro (h | h | h)
            · exact .inr (.inl h)
            · exact .inl h
            · exact .inr (.inr h)
          · rintro (h | h | h)
            · exact .inr (.inl h)
            · exact .inl h
            · exact .inr (.inr h)
        · have n1 : (Fi ++ G0).Nodup := nd_mk (nd_left n) (nd_right (nd_right n)) fun a z y => nd_off n a z (List.mem_append_right _ y)
          refine nd_mk (nd_left (nd_right n)) (h3 n1) fun a z y => ?_
          rcases List.mem_append.mp ((h2 a).mp y) with y | y
          · exact nd_off n a y (List.mem_append_left _ z)
          · exact nd_off (nd_right n) a z y
theorem getE_lt {e : En} {i : Nat} {d : D} (h : getE e i = some d) : i < e.length := by
  unfold getE at h
  cases q : e[i]? with
  | none => rw [q] at h; cases h
  | some x => exact (List.getElem?_eq_some_iff.mp q).1
theorem getE_set (e : En) (i : Nat) (x : Option D) (h : i < e.length) : getE (e.set i x) i = x := by
  unfold getE
  rw [List.getElem?_set_self h] <;> rfl
theorem getE_set_ne (e : En) {i j : Nat} (x : Option D) (h : i ≠ j) : getE (e.set i x) j = getE e j := by
  unfold getE
  rw [List.getElem?_set_ne h]
/-- a name's list, written -/
theorem EnvRep.write {σ : L2.St} {e : En} {F : List Addr} (h : EnvRep K H σ e F) (n : F.Nodup) {i : Nat} {xs : List P} (q : getE e i = some (.lst xs)) :
    ∃ a vs, σ[i]? = some (some (.ref a)) ∧ H a = some (.lst vs) ∧ PReps K H vs xs ∧ a ∈ F ∧ ∀ vs' ys, PReps K H vs' ys → ∃ F', EnvRep K (upd H a (.lst vs')) σ (e.set i (some (.lst ys))) F' ∧ F'.Nodup ∧ (∀ b, b ∈ F' → b ∈ F) ∧ Stp H F (upd H a (.lst vs')) F' := by
  obtain ⟨v, Fi, F', h1, h2, h3, h4, h5⟩ := h.out q
  cases h2 with
  | @lst a vs _ e0 r =>
    have n5 := h5 n
    have aF : a ∈ F := h4 a (List.mem_append_left _ (List.mem_singleton.mpr rfl))
    refine ⟨a, vs, h1, e0, r, aF, fun vs' ys r' => ?_⟩
    have kp : Keeps H (upd H a (.lst vs')) := fun b o e st => by
      rw [upd_ne (fun z => by subst z; rw [e0] at e; cases e; exact st trivial)]; exact e
    have h3' : EnvRep K (upd H a (.lst vs')) σ (e.set i none) F' := h3.mono kp fun b z => upd_ne fun y => by
      subst y
      exact nd_off n5 b (List.mem_singleton.mpr rfl) z
    obtain ⟨F2, g1, g2, g3⟩ := h3'.into h1 (Rep.lst (a := a) upd_same (r'.keep kp))
    have sub : ∀ b, b ∈ F2 → b ∈ F := fun b z => h4 b ((g2 b).mp z)
    refine ⟨F2, g1, g3 n5, sub, ⟨fun b o e z => ?_, fun b z => .inl (sub b z)⟩⟩
    rw [upd_ne (fun y : b = a => z (by rw [y]; exact aF))]
    exact e
/-- operands and names, read -/
theorem resv_ok {σ : L2.St} {e : En} {F Fd : List Addr} {v : V} {o : Opd} {d : D} (he : EnvRep K H σ e F) (r : ORep K H σ v o Fd) (q : resv e o = some d) : ∃ F, Rep K H v d F := by
  cases o with
  | tmp d' =>
    cases q
    exact ⟨Fd, r⟩
  | slot i =>
    obtain ⟨hi, _⟩ := (show σ[i]? = some (some v) ∧ Fd = [] from r)
    obtain ⟨v', Fi, h1, h2, _⟩ := he.get (show getE e i = some d from q)
    rw [hi] at h1
    cases h1
    exact ⟨Fi, h2⟩
theorem resvs_ok {σ : L2.St} {e : En} {F : List Addr} (he : EnvRep K H σ e F) : ∀ {vs : List V} {os : List Opd} {Fd : List Addr} {ds : List D}, ORs K H σ vs os Fd → resvs e os = some ds → PkAll K H vs ds := by
  intro vs os Fd ds h
  induction h generalizing ds with
  | nil => intro q; cases q; exact .nil
  | @cons v vs o os F0 G0 r _ ih =>
    intro q
    unfold resvs at q
    cases q1 : resv e o with
    | none => rw [q1] at q; cases q
    | some d =>
      rw [q1] at q
      cases q2 : resvs e os with
      | none => rw [q2] at q; cases q
      | some ds' =>
        rw [q2] at q
        cases q
        exact .cons (resv_ok he r q1) (ih q2)
theorem Rep.imm_of {v : V} {p : P} {F : List Addr} (h : Rep K H v (.imm p) F) : PRep K H v p ∧ F = [] := by
  cases h with
  | imm r => exact ⟨r, rfl⟩
theorem immOs_ok {σ : L2.St} : ∀ {vs : List V} {os : List Opd} {Fd : List Addr} {ps : List P}, ORs K H σ vs os Fd → immOs os = some ps → PReps K H vs ps ∧ Fd = [] := by
  intro vs os Fd ps h
  induction h generalizing ps with
  | nil => intro q; cases q; exact ⟨.nil, rfl⟩
  | @cons v vs o os F0 G0 r _ ih =>
    intro q
    unfold immOs at q
    cases q1 : immO o with
    | none => rw [q1] at q; cases q
    | some p =>
      rw [q1] at q
      cases q2 : immOs os with
      | none => rw [q2] at q; cases q
      | some ds' =>
        rw [q2] at q
        cases q
        obtain ⟨h1, h2⟩ := ih q2
        cases o with
        | slot _ => cases q1
        | tmp d =>
          cases d with
          | lst _ => cases q1
          | imm p' =>
            cases q1
            obtain ⟨g1, g2⟩ := Rep.imm_of (show Rep K H v (.imm p) F0 from r)
            exact ⟨.cons g1 h1, by rw [g2, h2] <;> rfl⟩
theorem immO_ok {σ : L2.St} {v : V} {o : Opd} {Fd : List Addr} {p : P} (r : ORep K H σ v o Fd) (q : immO o = some p) : PRep K H v p ∧ Fd = [] := by
  cases o with
  | slot _ => cases q
  | tmp d =>
    cases d with
    | lst _ => cases q
    | imm p' => cases q; exact Rep.imm_of r
end

/-! ### readings -/
/-- an expression's -/
def tO (K : PySem.W.Frag) (f : M Opd) : TE := fun σ H Q => ∃ e F o e', EnvRep K H σ e F ∧ F.Nodup ∧ f e = some (o, e') ∧
  ∀ v H' Fd F', ORep K H' σ v o Fd → EnvRep K H' σ e' F' → (Fd ++ F').Nodup → Stp H F H' (Fd ++ F') → Q v H'
def tOs (K : PySem.W.Frag) (f : M (List Opd)) : TA := fun σ H Q => ∃ e F o e', EnvRep K H σ e F ∧ F.Nodup ∧ f e = some (o, e') ∧
  ∀ v H' Fd F', ORs K H' σ v o Fd → EnvRep K H' σ e' F' → (Fd ++ F').Nodup → Stp H F H' (Fd ++ F') → Q v H'
/-- a test's -/
def tB (K : PySem.W.Frag) (f : M Bool) : TT := fun σ H Q => ∃ e F b e', EnvRep K H σ e F ∧ F.Nodup ∧ f e = some (b, e') ∧
  ∀ H' F', EnvRep K H' σ e' F' → F'.Nodup → Stp H F H' F' → Q b H'
theorem PE.weak {X : Cx} {e : Expr} {t t' : TE} (h : PE X e t) (w : ∀ σ H Q, t' σ H Q → t σ H Q) : PE X e t' := ⟨fun pins s σ H Q I q => h.run pins s σ H Q I (w σ H Q q)⟩
theorem PA.weak {X : Cx} {e : List Expr} {t t' : TA} (h : PA X e t) (w : ∀ σ H Q, t' σ H Q → t σ H Q) : PA X e t' := ⟨fun p pins s σ H Q I q => h.run p pins s σ H Q I (w σ H Q q)⟩
theorem PT.weak {X : Cx} {e : Expr} {t t' : TT} (h : PT X e t) (w : ∀ σ H Q, t' σ H Q → t σ H Q) : PT X e t' := ⟨fun pins s σ H Q I q => h.run pins s σ H Q I (w σ H Q q)⟩
theorem PS.weak {X : Cx} {e : Stmt} {t t' : TS} (h : PS X e t) (w : ∀ D σ H, t' D σ H → t D σ H) : PS X e t' := ⟨fun pins s σ H D I q => h.run pins s σ H D I (w D σ H q)⟩
theorem PSs.weak {X : Cx} {e : List Stmt} {t t' : TS} (h : PSs X e t) (w : ∀ D σ H, t' D σ H → t D σ H) : PSs X e t' := ⟨fun pins s σ H D I q => h.run pins s σ H D I (w D σ H q)⟩
/-- two in a row: a value waits -/
theorem tO_bind {K : PySem.W.Frag} {f : M Opd} {σ : L2.St} {H : Hp} {Q : VK} {e e1 : En} {F : List Addr} {o : Opd} (he : EnvRep K H σ e F) (n : F.Nodup) (hf : f e = some (o, e1))
    (h : ∀ v H1 Fd F1, ORep K H1 σ v o Fd → EnvRep K H1 σ e1 F1 → (Fd ++ F1).Nodup → Stp H F H1 (Fd ++ F1) → Q v H1) : tO K f σ H Q := ⟨e, F, o, e1, he, n, hf, h⟩
/-- the ops on values: whatever they make is new -/
def OpOk (K : PySem.W.Frag) (r : List V → Hp → VK → Prop) (f : List D → Option D) : Prop :=
  ∀ vs ds H Q d, PkAll K H vs ds → f ds = some d → (∀ v H' F, Same H H' → Rep K H' v d F → (∀ a ∈ F, H a = none) → F.Nodup → Q v H') → r vs H Q
/-- operands, then an op -/
theorem ops_end {K : PySem.W.Frag} {r : List V → Hp → VK → Prop} {g : List D → Option D} (ok : OpOk K r g) {σ : L2.St} {H H2 : Hp} {Q : VK} {F Fs F2 : List Addr} {vs : List V} {os : List Opd} {e2 : En} {ds : List D} {d : D}
    (rs : ORs K H2 σ vs os Fs) (he : EnvRep K H2 σ e2 F2) (n : (Fs ++ F2).Nodup) (s : Stp H F H2 (Fs ++ F2)) (hr : resvs e2 os = some ds) (hg : g ds = some d)
    (hQ : ∀ v H' Fd F', ORep K H' σ v (.tmp d) Fd → EnvRep K H' σ e2 F' → (Fd ++ F').Nodup → Stp H F H' (Fd ++ F') → Q v H') : r vs H2 Q := by
  refine ok vs ds H2 Q d (resvs_ok he rs hr) hg fun v H3 F3 sm rp fr n3 => ?_
  obtain ⟨s3, n3'⟩ := stp_new s n he.mut sm fr n3
  exact hQ v H3 F3 F2 rp (he.same sm) n3' s3
theorem bind_some {α β : Type} {x : Option α} {f : α → Option β} {b : β} (h : x.bind f = some b) : ∃ a, x = some a ∧ f a = some b := by
  cases x with
  | none => cases h
  | some a => exact ⟨a, rfl, h⟩
end Sw
set_option maxHeartbeats 1000000
/-! Sw, part 4: the operators by values. -/
namespace Sw
open PySem PySem.Spec PyProof.Rows L2
section
variable {K : PySem.W.Frag} {H : Hp}
def r2n (r : R2) : List V → Hp → VK → Prop := fun vs H Q => ∃ x y, vs = [x, y] ∧ r x y H Q
def r1n (r : V → Hp → VK → Prop) : List V → Hp → VK → Prop := fun vs H Q => ∃ x, vs = [x] ∧ r x H Q
theorem PkAll.one {vs : List V} {d : D} (h : PkAll K H vs [d]) : ∃ v F, vs = [v] ∧ Rep K H v d F := by
  cases h with
  | cons a b => cases b; obtain ⟨F, a⟩ := a; exact ⟨_, F, rfl, a⟩
theorem PkAll.two {vs : List V} {d e : D} (h : PkAll K H vs [d, e]) : ∃ v u F G, vs = [v, u] ∧ Rep K H v d F ∧ Rep K H u e G := by
  cases h with
  | cons a b => cases b with
    | cons b c => cases c; obtain ⟨F, a⟩ := a; obtain ⟨G, b⟩ := b; exact ⟨_, _, F, G, rfl, a, b⟩
theorem PkAll.three {vs : List V} {d e f : D} (h : PkAll K H vs [d, e, f]) : ∃ v u w F G L, vs = [v, u, w] ∧ Rep K H v d F ∧ Rep K H u e G ∧ Rep K H w f L := by
  cases h with
  | cons a b => cases b with
    | cons b c => cases c with
      | cons c d => cases d; obtain ⟨F, a⟩ := a; obtain ⟨G, b⟩ := b; obtain ⟨L, c⟩ := c; exact ⟨_, _, _, F, G, L, rfl, a, b, c⟩
theorem Rep.int_of {v : V} {i : Int} {F : List Addr} (h : Rep K H v (.imm (.int i)) F) : v = .int i := by
  obtain ⟨h, _⟩ := h.imm_of; cases h; rfl
theorem Rep.bl_of {v : V} {i : Bool} {F : List Addr} (h : Rep K H v (.imm (.bl i)) F) : v = .bl i := by
  obtain ⟨h, _⟩ := h.imm_of; cases h; rfl
theorem Rep.str_of {v : V} {s : List Nat} {F : List Addr} (h : Rep K H v (.imm (.str s)) F) : v = .str (sOf s) ∧ chrOk s = true := by
  obtain ⟨h, _⟩ := h.imm_of; cases h with | str _ c => exact ⟨rfl, c⟩
theorem Rep.tup_of {v : V} {ps : List P} {F : List Addr} (h : Rep K H v (.imm (.tup ps)) F) : ∃ a xs, v = .ref a ∧ SqT K H a xs ∧ PReps K H xs ps := by
  obtain ⟨h, _⟩ := h.imm_of; cases h with | tup a b => exact ⟨_, _, rfl, a, b⟩
theorem Rep.flst_of {v : V} {ps : List P} {F : List Addr} (h : Rep K H v (.imm (.lst ps)) F) : ∃ a xs, v = .ref a ∧ FzL K H a xs ∧ PReps K H xs ps := by
  obtain ⟨h, _⟩ := h.imm_of; cases h with | lst a b => exact ⟨_, _, rfl, a, b⟩
theorem Rep.lst_of {v : V} {ps : List P} {F : List Addr} (h : Rep K H v (.lst ps) F) : ∃ a xs, v = .ref a ∧ H a = some (.lst xs) ∧ PReps K H xs ps ∧ F = [a] := by
  cases h with | lst a b => exact ⟨_, _, rfl, a, b, rfl⟩
/-- a list or tuple, owned or not, for reading -/
theorem Rep.seq_of {v : V} {d : D} {F : List Addr} {ps : List P} (h : Rep K H v d F) (e : elems d = some ps) (ns : ∀ s, d ≠ .imm (.str s)) : ∃ a xs, v = .ref a ∧ (SqL K H a xs ∨ SqT K H a xs) ∧ PReps K H xs ps := by
  cases d with
  | lst qs =>
    obtain ⟨a, xs, h1, h2, h3, _⟩ := h.lst_of
    cases e
    exact ⟨a, xs, h1, .inl (SqL.of h2), h3⟩
  | imm p =>
    cases p with
    | tup qs =>
      obtain ⟨a, xs, h1, h2, h3⟩ := h.tup_of
      cases e
      exact ⟨a, xs, h1, .inr h2, h3⟩
    | lst qs =>
      obtain ⟨a, xs, h1, h2, h3⟩ := h.flst_of
      cases e
      exact ⟨a, xs, h1, .inl h2.sql, h3⟩
    | str s => exact absurd rfl (ns s)
    | _ => cases e
theorem sizeLine_is : (sizeLine : Nat) = 16777216 := by decide
theorem le_line {n : Nat} (h : n ≤ line) : n ≤ sizeLine := by rw [sizeLine_is]; exact h
theorem lt_line {n : Nat} (h : n < line) : n < sizeLine := by rw [sizeLine_is]; exact h
theorem fin_imm {r : Prop} {Q : VK} {p : P} {v : V} (hQ : ∀ v H' F, Same H H' → Rep K H' v (.imm p) F → (∀ a ∈ F, H a = none) → F.Nodup → Q v H') (h : PRep K H v p) : Q v H :=
  hQ v H [] (Same.refl H) (.imm h) (fun a z => nomatch z) List.nodup_nil
theorem same_new {a : Addr} {o : HO} (h : H a = none) : Same H (upd H a o) := fun b x e => by rw [upd_ne (ne_of_none e h)]; exact e
/-- a new tuple -/
theorem fin_tup {Q : VK} {ps : List P} {xs : List V} {a : Addr} (hQ : ∀ v H' F, Same H H' → Rep K H' v (.imm (.tup ps)) F → (∀ a ∈ F, H a = none) → F.Nodup → Q v H') (n : H a = none) (h : PReps K H xs ps) : Q (.ref a) (upd H a (.tup xs)) :=
  hQ _ _ [] (same_new n) (.imm (.tup (SqT.of upd_same) (h.keep (Keeps.of_same (same_new n))))) (fun a z => nomatch z) List.nodup_nil
theorem fin_lst {Q : VK} {ps : List P} {xs : List V} {a : Addr} (hQ : ∀ v H' F, Same H H' → Rep K H' v (.lst ps) F → (∀ a ∈ F, H a = none) → F.Nodup → Q v H') (n : H a = none) (h : PReps K H xs ps) : Q (.ref a) (upd H a (.lst xs)) :=
  hQ _ _ [a] (same_new n) (.lst upd_same (h.keep (Keeps.of_same (same_new n)))) (fun b z => by rw [List.mem_singleton.mp z]; exact n) (by simp)

/-! ### == -/
mutual
def toPy : P → PyData
  | .non => .none
  | .bl b => .bool b
  | .int i => .int i
  | .str s => .str (sOf s)
  | .tup xs => .tuple (toPys xs)
  | .lst xs => .list (toPys xs)
def toPys : List P → List PyData
  | [] => []
  | x :: xs => toPy x :: toPys xs
end
theorem toPys_map : ∀ xs, toPys xs = xs.map toPy
  | [] => rfl
  | x :: xs => by rw [toPys, List.map_cons, toPys_map xs]
mutual
theorem PRep.dp : ∀ {p : P} {v : V}, PRep K H v p → Dp K H v (toPy p)
  | .non, _, h => by cases h; exact .non
  | .bl b, _, h => by cases h; exact .bl b
  | .int i, _, h => by cases h; exact .int i
  | .str s, _, h => by cases h; exact .str _
  | .tup ps, _, h => by cases h with | tup a b => exact .tup a (PReps.dp b)
  | .lst ps, _, h => by cases h with | lst a b => exact .lst a.sql (PReps.dp b)
theorem PReps.dp : ∀ {ps : List P} {vs : List V}, PReps K H vs ps → DpAll K H vs (toPys ps)
  | [], _, h => by cases h; exact .nil
  | p :: ps, _, h => by cases h with | cons a b => exact .cons (PRep.dp a) (PReps.dp b)
end
theorem Rep.dp {v : V} {d : D} {F : List Addr} (h : Rep K H v d F) : Dp K H v (toPy (rd d)) := by
  cases h with
  | imm h => exact h.dp
  | lst e r => exact .lst (SqL.of e) r.dp
mutual
theorem PRep.lay : ∀ {p : P} {v : V}, PRep K H v p → (toPy p).canLay0 = true
  | .non, _, _ => by simp [toPy, PyData.canLay0]
  | .bl b, _, _ => by simp [toPy, PyData.canLay0]
  | .int i, _, _ => by simp [toPy, PyData.canLay0]
  | .str s, _, h => by
    cases h with
    | str _ c =>
      simp only [toPy, PyData.canLay0, PyData.strOk, sOf]
      rw [← Array.all_toList]
      exact c
  | .tup ps, _, h => by cases h with | tup a b => simp only [toPy, PyData.canLay0]; exact PReps.lay b
  | .lst ps, _, h => by cases h with | lst a b => simp only [toPy, PyData.canLay0]; exact PReps.lay b
theorem PReps.lay : ∀ {ps : List P} {vs : List V}, PReps K H vs ps → PyData.canLayAll0 (toPys ps) = true
  | [], _, _ => by simp [toPys, PyData.canLayAll0]
  | p :: ps, _, h => by cases h with | cons a b => simp [toPys, PyData.canLayAll0, PRep.lay a, PReps.lay b]
end
mutual
theorem depth_py : ∀ p : P, (toPy p).depth = depth p
  | .non => by simp [toPy, PyData.depth, depth]
  | .bl b => by simp [toPy, PyData.depth, depth]
  | .int i => by simp [toPy, PyData.depth, depth]
  | .str s => by simp [toPy, PyData.depth, depth]
  | .tup ps => by simp [toPy, PyData.depth, depth, depths_py ps]
  | .lst ps => by simp [toPy, PyData.depth, depth, depths_py ps]
theorem depths_py : ∀ ps : List P, PyData.depthAll (toPys ps) = depths ps
  | [] => by simp [toPys, PyData.depthAll, depths]
  | p :: ps => by simp [toPys, PyData.depthAll, depths, depth_py p, depths_py ps]
end
theorem Rep.lay {v : V} {d : D} {F : List Addr} (h : Rep K H v d F) : (toPy (rd d)).canLay0 = true := by
  cases h with
  | imm h => exact h.lay
  | lst e r => simp only [rd, toPy, PyData.canLay0]; exact r.lay
theorem sOf_eq (a b : List Nat) : (sOf a == sOf b) = (a == b) := by
  by_cases h : a = b
  · subst h; simp
  · have : sOf a ≠ sOf b := fun e => h (sOf_inj e)
    rw [beq_eq_false_iff_ne.mpr this, beq_eq_false_iff_ne.mpr h]
mutual
theorem eqv_py : ∀ p q : P, PyData.eqv (toPy p) (toPy q) = peq p q
  | .non, q => by cases q <;> simp [toPy, PyData.eqv, peq]
  | .bl b, q => by cases q <;> simp [toPy, PyData.eqv, peq]
  | .int i, q => by cases q <;> simp [toPy, PyData.eqv, peq]
  | .str s, q => by cases q <;> simp [toPy, PyData.eqv, peq, sOf_eq]
  | .tup ps, q => by
    cases q with
    | tup qs => simp [toPy, PyData.eqv, peq, eqvs_py ps qs]
    | _ => simp [toPy, PyData.eqv, peq]
  | .lst ps, q => by
    cases q with
    | lst qs => simp [toPy, PyData.eqv, peq, eqvs_py ps qs]
    | _ => simp [toPy, PyData.eqv, peq]
theorem eqvs_py : ∀ ps qs : List P, PyData.eqvAll (toPys ps) (toPys qs) = peqs ps qs
  | [], qs => by cases qs <;> simp [toPys, PyData.eqvAll, peqs]
  | p :: ps, qs => by
    cases qs with
    | nil => simp [toPys, PyData.eqvAll, peqs]
    | cons q qs => simp [toPys, PyData.eqvAll, peqs, eqv_py p q, eqvs_py ps qs]
end
/-- == of any two: the deeper one may be of any depth -/
def rEqP (K : PySem.W.Frag) : R2 := fun x y H Q => ∃ d e, Dp K H x d ∧ Dp K H y e ∧ d.canLay0 = true ∧ e.canLay0 = true ∧ min d.depth e.depth ≤ 60 ∧ Q (.bl (PyData.eqv d e)) H
def rNeP (K : PySem.W.Frag) : R2 := fun x y H Q => ∃ d e, Dp K H x d ∧ Dp K H y e ∧ d.canLay0 = true ∧ e.canLay0 = true ∧ min d.depth e.depth ≤ 60 ∧ Q (.bl (!PyData.eqv d e)) H
theorem op_eqP {X : Cx} (hu : X.A.units + 64 < cLine) : OpR X (compareOp .Eq) (rEqP X.K) := by
  intro pins s σ H x y v u Q I rx ry h
  obtain ⟨d, e, hd, he, sd, se, hm, q⟩ := h
  obtain ⟨as, r1⟩ := Dp.reads I d x v hd rx
  obtain ⟨bs, r2⟩ := Dp.reads I e y u he ry
  exact SeqAt.compareEq_reads r1 r2 sd se (by omega) ⟨.bl _, H, I, rfl, q⟩
theorem op_neP {X : Cx} (hu : X.A.units + 64 < cLine) : OpR X (compareOp .NotEq) (rNeP X.K) := by
  intro pins s σ H x y v u Q I rx ry h
  obtain ⟨d, e, hd, he, sd, se, hm, q⟩ := h
  obtain ⟨as, r1⟩ := Dp.reads I d x v hd rx
  obtain ⟨bs, r2⟩ := Dp.reads I e y u he ry
  exact SeqAt.compareNe_reads r1 r2 sd se (by omega) ⟨.bl _, H, I, rfl, q⟩
theorem ib_inv {b : Bool} {d : D} (h : ib b = some d) : d = .imm (.bl b) := by unfold ib at h; exact (Option.some.inj h).symm
theorem ii_inv {b : Int} {d : D} (h : ii b = some d) : d = .imm (.int b) := by unfold ii at h; exact (Option.some.inj h).symm
theorem ok_eq : OpOk K (r2n (rEqP K)) (opSem .eq) := by
  intro vs ds H Q d pk h hQ
  match ds, pk, h with
  | [x, y], pk, h =>
    obtain ⟨v, u, F, G, rfl, r1, r2⟩ := pk.two
    have h : (cmpEq x y).bind ib = some d := h
    obtain ⟨b, h1, h2⟩ := bind_some h
    obtain rfl := ib_inv h2
    unfold cmpEq at h1
    split at h1
    · rename_i hm
      cases h1
      refine ⟨v, u, rfl, _, _, r1.dp, r2.dp, r1.lay, r2.lay, by rw [depth_py, depth_py]; exact hm, ?_⟩
      rw [eqv_py]
      exact fin_imm (r := True) hQ (.bl _)
    · cases h1
theorem ok_ne : OpOk K (r2n (rNeP K)) (opSem .ne) := by
  intro vs ds H Q d pk h hQ
  match ds, pk, h with
  | [x, y], pk, h =>
    obtain ⟨v, u, F, G, rfl, r1, r2⟩ := pk.two
    have h : (cmpEq x y).bind (fun b => ib (!b)) = some d := h
    obtain ⟨b, h1, h2⟩ := bind_some h
    obtain rfl := ib_inv h2
    unfold cmpEq at h1
    split at h1
    · rename_i hm
      cases h1
      refine ⟨v, u, rfl, _, _, r1.dp, r2.dp, r1.lay, r2.lay, by rw [depth_py, depth_py]; exact hm, ?_⟩
      rw [eqv_py]
      exact fin_imm (r := True) hQ (.bl _)
    · cases h1
end
end Sw
set_option maxHeartbeats 1000000
/-! Sw, part 5: more operators by values. -/
namespace Sw
open PySem PySem.Spec PyProof.Rows L2
section
variable {K : PySem.W.Frag} {H : Hp}
theorem sOf_app (a b : List Nat) : sOf a ++ sOf b = sOf (a ++ b) := by
  show Str.append (sOf a) (sOf b) = _
  simp [sOf, Str.append]
theorem chrOk_app {a b : List Nat} (h : chrOk a = true) (h' : chrOk b = true) : chrOk (a ++ b) = true := by
  unfold chrOk at *
  rw [List.all_append, h, h'] <;> rfl
theorem chrOk_sub {a b : List Nat} (h : chrOk a = true) (s : ∀ x ∈ b, x ∈ a) : chrOk b = true := by
  unfold chrOk at *
  rw [List.all_eq_true] at *
  exact fun x z => h x (s x z)
/-! ### + -/
def rAddD (K : PySem.W.Frag) : R2 := fun x y H Q => rI0 (fun i j => .int (i + j)) x y H Q ∨ (∃ i j, x = .str i ∧ y = .str j ∧ i.length + j.length ≤ sizeLine ∧ Q (.str (i ++ j)) H) ∨ rCatA K x y H Q ∨ rCat x y H Q
theorem op_addD {X : Cx} : OpR X (binaryOp .Add) (rAddD X.K) := op_add.or (op_add_str.or (op_catA.or op_cat))
theorem ok_add : OpOk K (r2n (rAddD K)) (opSem .add) := by
  intro vs ds H Q d pk h hQ
  match ds, pk, h with
  | [x, y], pk, h =>
    obtain ⟨v, u, F, G, rfl, r1, r2⟩ := pk.two
    have h : opAdd x y = some d := h
    refine ⟨v, u, rfl, ?_⟩
    unfold opAdd at h
    split at h
    · obtain rfl := ii_inv h
      obtain rfl := r1.int_of
      obtain rfl := r2.int_of
      exact .inl ⟨_, _, rfl, rfl, fin_imm (r := True) hQ (.int _)⟩
    · split at h
      · rename_i hl
        cases h
        obtain ⟨rfl, c1⟩ := r1.str_of
        obtain ⟨rfl, c2⟩ := r2.str_of
        refine .inr (.inl ⟨_, _, rfl, rfl, by rw [sOf_len, sOf_len]; exact le_line hl, ?_⟩)
        rw [sOf_app]
        exact fin_imm (r := True) hQ (.str _ (chrOk_app c1 c2))
      · cases h
    · split at h
      · rename_i hl
        cases h
        obtain ⟨a, xs, rfl, s1, q1⟩ := r1.tup_of
        obtain ⟨b, ys, rfl, s2, q2⟩ := r2.tup_of
        refine .inr (.inr (.inl ⟨a, b, xs, ys, rfl, rfl, s1, s2, by rw [q1.length, q2.length]; exact le_line hl, fun e => ?_, fun _ e => ?_, fun _ _ p hp => fin_tup hQ hp (q1.append q2)⟩))
        · subst e
          cases q1
          exact fin_imm (r := True) hQ (.tup s2 q2)
        · subst e
          cases q2
          rw [List.append_nil] at hQ
          exact fin_imm (r := True) hQ (.tup s1 q1)
      · cases h
    · split at h
      · rename_i hl
        cases h
        obtain ⟨a, xs, rfl, s1, q1, _⟩ := r1.lst_of
        obtain ⟨b, ys, rfl, s2, q2, _⟩ := r2.lst_of
        exact .inr (.inr (.inr ⟨a, b, xs, ys, rfl, rfl, s1, s2, by rw [q1.length, q2.length]; exact le_line hl, fun p hp => fin_lst hQ hp (q1.append q2)⟩))
      · cases h
    · cases h
/-! ### -, //, %, unary - -/
theorem int2_inv {f : Int → Int → Option D} {x y d : D} (h : int2 f x y = some d) : ∃ a b, x = .imm (.int a) ∧ y = .imm (.int b) ∧ f a b = some d := by
  unfold int2 at h
  split at h
  · exact ⟨_, _, rfl, rfl, h⟩
  · cases h
theorem int1_inv {f : Int → Option D} {x d : D} (h : int1 f x = some d) : ∃ a, x = .imm (.int a) ∧ f a = some d := by
  unfold int1 at h
  split at h
  · exact ⟨_, rfl, h⟩
  · cases h
/-- an op of two ints with a condition -/
theorem ok_int2 {o : Op} {f : Int → Int → Option D} {C : Int → Int → Prop} {g : Int → Int → P} {gv : Int → Int → V} (hs : ∀ x y, opSem o [x, y] = int2 f x y) (hs0 : opSem o [] = none) (hs1 : ∀ x, opSem o [x] = none) (hs3 : ∀ x y z r, opSem o (x :: y :: z :: r) = none)
    (hf : ∀ a b d, f a b = some d → C a b ∧ d = .imm (g a b)) (hg : ∀ (K : PySem.W.Frag) (H : Hp) a b, PRep K H (gv a b) (g a b)) : OpOk K (r2n (rI C gv)) (opSem o) := by
  intro vs ds H Q d pk h hQ
  match ds, pk, h with
  | [], _, h => rw [hs0] at h; cases h
  | [x], _, h => rw [hs1] at h; cases h
  | x :: y :: z :: r, _, h => rw [hs3] at h; cases h
  | [x, y], pk, h =>
    rw [hs] at h
    obtain ⟨v, u, F, G, rfl, r1, r2⟩ := pk.two
    obtain ⟨a, b, rfl, rfl, h⟩ := int2_inv h
    obtain ⟨hc, rfl⟩ := hf _ _ _ h
    obtain rfl := r1.int_of
    obtain rfl := r2.int_of
    exact ⟨_, _, rfl, _, _, rfl, rfl, hc, fin_imm (r := True) hQ (hg K H a b)⟩
theorem ok_int2' {o : Op} {f : Int → Int → Option D} {g : Int → Int → P} {gv : Int → Int → V} (hs : ∀ x y, opSem o [x, y] = int2 f x y) (hs0 : opSem o [] = none) (hs1 : ∀ x, opSem o [x] = none) (hs3 : ∀ x y z r, opSem o (x :: y :: z :: r) = none)
    (hf : ∀ a b d, f a b = some d → d = .imm (g a b)) (hg : ∀ (K : PySem.W.Frag) (H : Hp) a b, PRep K H (gv a b) (g a b)) : OpOk K (r2n (rI0 gv)) (opSem o) := by
  intro vs ds H Q d pk h hQ
  obtain ⟨x, y, e, i, j, h1, h2, _, q⟩ := ok_int2 (C := fun _ _ => True) hs hs0 hs1 hs3 (fun a b d h => ⟨trivial, hf a b d h⟩) hg vs ds H Q d pk h hQ
  exact ⟨x, y, e, i, j, h1, h2, q⟩
theorem ok_sub : OpOk K (r2n (rI0 fun i j => .int (i - j))) (opSem .sub) := ok_int2' (g := fun a b => .int (a - b)) (fun _ _ => rfl) rfl (fun _ => rfl) (fun _ _ _ _ => rfl) (fun a b d h => ii_inv h) fun _ _ _ _ => .int _
theorem ok_fdiv : OpOk K (r2n (rI CDivN fun i j => .int (i.fdiv j))) (opSem .fdiv) := ok_int2 (g := fun a b => .int (a.fdiv b)) (fun _ _ => rfl) rfl (fun _ => rfl) (fun _ _ _ _ => rfl) (fun a b d h => by
  by_cases c : b ≠ 0 ∧ b.natAbs < 1073741824
  · rw [if_pos c] at h; exact ⟨c, ii_inv h⟩
  · rw [if_neg c] at h; cases h) fun _ _ _ _ => .int _
theorem ok_mod : OpOk K (r2n (rI (fun _ j => j ≠ 0) fun i j => .int (i.fmod j))) (opSem .mod) := ok_int2 (g := fun a b => .int (a.fmod b)) (fun _ _ => rfl) rfl (fun _ => rfl) (fun _ _ _ _ => rfl) (fun a b d h => by
  by_cases c : b ≠ 0
  · rw [if_pos c] at h; exact ⟨c, ii_inv h⟩
  · rw [if_neg c] at h; cases h) fun _ _ _ _ => .int _
theorem ok_pow : OpOk K (r2n (rI CPow fun i j => .int (i ^ j.toNat))) (opSem .pow) := ok_int2 (g := fun a b => .int (a ^ b.toNat)) (fun _ _ => rfl) rfl (fun _ => rfl) (fun _ _ _ _ => rfl) (fun a b d h => by
  by_cases c : 0 ≤ b ∧ b ≤ 1000000 ∧ a.natAbs < 2 ^ 64
  · rw [if_pos c] at h; exact ⟨c, ii_inv h⟩
  · rw [if_neg c] at h; cases h) fun _ _ _ _ => .int _
theorem ok_xor : OpOk K (r2n (rI0 fun i j => .int (Builtin.bitXor i j))) (opSem .xor) := ok_int2' (g := fun i j => .int (Builtin.bitXor i j)) (fun _ _ => rfl) rfl (fun _ => rfl) (fun _ _ _ _ => rfl) (fun a b d h => ii_inv h) fun _ _ _ _ => .int _
theorem ok_isB : OpOk K (r2n rIsB) (opSem .isB) := by
  intro vs ds H Q d pk h hQ
  match ds, pk, h with
  | [x, y], pk, h =>
    obtain ⟨v, u, F, G, rfl, r1, r2⟩ := pk.two
    have h : isB2 false x y = some d := h
    unfold isB2 at h
    split at h
    · obtain rfl := r1.bl_of
      obtain rfl := r2.bl_of
      cases h
      exact ⟨_, _, rfl, _, _, rfl, rfl, fin_imm (r := True) hQ (.bl _)⟩
    · cases h
theorem ok_notB : OpOk K (r2n rNotB) (opSem .notB) := by
  intro vs ds H Q d pk h hQ
  match ds, pk, h with
  | [x, y], pk, h =>
    obtain ⟨v, u, F, G, rfl, r1, r2⟩ := pk.two
    have h : isB2 true x y = some d := h
    unfold isB2 at h
    split at h
    · obtain rfl := r1.bl_of
      obtain rfl := r2.bl_of
      cases h
      exact ⟨_, _, rfl, _, _, rfl, rfl, fin_imm (r := True) hQ (.bl _)⟩
    · cases h
theorem ok_min2 : OpOk K (r2n (rI0 fun i j => .int (if j < i then j else i))) (opSem .min2) := ok_int2' (g := fun i j => .int (if j < i then j else i)) (fun _ _ => rfl) rfl (fun _ => rfl) (fun _ _ _ _ => rfl) (fun a b d h => ii_inv h) fun _ _ _ _ => .int _
theorem ok_max2 : OpOk K (r2n (rI0 fun i j => .int (if j > i then j else i))) (opSem .max2) := ok_int2' (g := fun i j => .int (if j > i then j else i)) (fun _ _ => rfl) rfl (fun _ => rfl) (fun _ _ _ _ => rfl) (fun a b d h => ii_inv h) fun _ _ _ _ => .int _
theorem ok_int1 {o : Op} {f : Int → Option D} {g : Int → P} {gv : Int → V} (hs : ∀ x, opSem o [x] = int1 f x) (hs0 : opSem o [] = none) (hs3 : ∀ x y r, opSem o (x :: y :: r) = none)
    (hf : ∀ a d, f a = some d → d = .imm (g a)) (hg : ∀ (K : PySem.W.Frag) (H : Hp) a, PRep K H (gv a) (g a)) : OpOk K (r1n (rU gv)) (opSem o) := by
  intro vs ds H Q d pk h hQ
  match ds, pk, h with
  | [], _, h => rw [hs0] at h; cases h
  | x :: y :: r, _, h => rw [hs3] at h; cases h
  | [x], pk, h =>
    rw [hs] at h
    obtain ⟨v, F, rfl, r1⟩ := pk.one
    obtain ⟨a, rfl, h⟩ := int1_inv h
    obtain rfl := hf _ _ h
    obtain rfl := r1.int_of
    exact ⟨_, rfl, _, rfl, fin_imm (r := True) hQ (hg K H a)⟩
theorem ok_neg : OpOk K (r1n (rU fun i => .int (-i))) (opSem .neg) := ok_int1 (g := fun a => .int (-a)) (fun _ => rfl) rfl (fun _ _ _ => rfl) (fun a d h => ii_inv h) fun _ _ _ => .int _
theorem ok_abs : OpOk K (r1n (rU fun i => .int (if i < 0 then -i else i))) (opSem .abs) := ok_int1 (g := fun i => .int (if i < 0 then -i else i)) (fun _ => rfl) rfl (fun _ _ _ => rfl) (fun a d h => ii_inv h) fun _ _ _ => .int _
/-! ### * -/
def rMulS : R2 := fun x y H Q => ∃ (z : Str) (k : Int), x = .str z ∧ y = .int k ∧ -(2 ^ 62) ≤ k ∧ k < 2 ^ 62 ∧ z.length * k.toNat ≤ sizeLine ∧ Q (.str ⟨(List.replicate k.toNat z.cps.toList).flatten.toArray⟩) H
theorem foldl_cat (a : Array Nat) : ∀ (k : Nat) (acc : Array Nat), (List.replicate k a).foldl (· ++ ·) acc = acc ++ (List.replicate k a.toList).flatten.toArray
  | 0, acc => by simp
  | k + 1, acc => by
    rw [List.replicate_succ, List.foldl_cons, foldl_cat a k, List.replicate_succ, List.flatten_cons]
    apply Array.ext'
    simp
theorem op_mulS {X : Cx} : OpR X (binaryOp .Mult) rMulS := by
  intro pins s σ H x y v u Q I rx ry h
  obtain ⟨z, k, rfl, rfl, h1, h2, h3, q⟩ := h
  obtain ⟨t, rfl⟩ := rx
  obtain ⟨t', rfl⟩ := ry
  have e63 : (2 : Int) ^ 63 = 9223372036854775808 := by decide
  have e62 : (2 : Int) ^ 62 = 4611686018427387904 := by decide
  rw [e62] at h1 h2
  rw [sizeLine_is] at h3
  have hsz : z.length = z.cps.size := rfl
  have fin : ∀ k : Nat, (List.replicate k z.cps).foldl (· ++ ·) #[] = (List.replicate k z.cps.toList).flatten.toArray := fun k => by rw [foldl_cat]; simp
  refine PySem.P.mul_str (by rw [e63, decide_eq_false (by omega), decide_eq_false (by omega)] <;> rfl) (fun c1 c2 => ?_) (fun c1 c2 => ?_) ?_
  · rw [Bool.or_eq_false_iff] at c2
    obtain ⟨n, rfl⟩ := Int.eq_ofNat_of_zero_le (show 0 ≤ k by omega)
    rw [Int.toNat_natCast] at h3
    rw [e63]
    intro z2
    have hn : (0 : Int) < (n : Int) := by omega
    have h4 : ((z.length : Nat) : Int) * (n : Int) ≤ 16777216 := by
      rw [← Int.natCast_mul]
      omega
    have h5 : (9223372036854775808 - 1 : Int) / (n : Int) < (z.length : Int) := z2
    have h6 := (Int.ediv_lt_iff_lt_mul hn).mp h5
    omega
  · show decide (z.length * k.toNat > sizeLine) = false
    rw [sizeLine_is]
    exact decide_eq_false (by omega)
  · by_cases c1 : k < 1
    · rw [if_pos c1]
      have e : k.toNat = 0 := by omega
      rw [e] at q
      exact ⟨by decide, .str _, H, I.tok _, ⟨_, rfl⟩, q⟩
    · rw [if_neg c1]
      by_cases c2 : (k == 1 || z.length == 0) = true
      · rw [if_pos c2]
        refine ⟨.str z, H, I, ⟨t, rfl⟩, ?_⟩
        have e : (⟨(List.replicate k.toNat z.cps.toList).flatten.toArray⟩ : Str) = z := by
          rcases Bool.or_eq_true_iff.mp c2 with c | c
          · have e1 : k = 1 := eq_of_beq c
            subst e1
            cases z
            simp
          · have e1 : z.length = 0 := eq_of_beq c
            cases z with
            | mk cs =>
              have e2 : cs = #[] := Array.eq_empty_of_size_eq_zero e1
              subst e2
              simp
        rw [e] at q
        exact q
      · rw [if_neg c2, fin]
        refine ⟨?_, .str _, H, I.tok _, ⟨_, rfl⟩, q⟩
        show _ ≤ sizeLine
        rw [sizeLine_is]
        show (List.replicate k.toNat z.cps.toList).flatten.toArray.size ≤ _
        rw [List.size_toArray, PyProof.Rows.lm_len_rep_flat, Array.length_toList, Nat.mul_comm]
        exact h3
theorem tuple_mulS (l : Addr) (items : Array Value) (n : Nat) (dd : Option Addr) (sl : Array (Option Value)) (x : Int) (u : Tok) (c0 : (decide (x < -(2 ^ 63)) || decide (x ≥ 2 ^ 63)) = false) (c1 : (items.isEmpty || x == 1) = true) :
    Meets (Builtin.«tuple.__mul__» ⟨[.ref l, .int x u], []⟩) (fun _ R s => s.heap.get? l = some { cls := .type "tuple", dict := dd, data := .seq items n, slots := sl } ∧ R (.ok (.ret (Value.ref l))) s) :=
  .of_wp fun prog w A R s h => by
    obtain ⟨hp, g, d, tk, os⟩ := s
    obtain ⟨hl, h⟩ := h
    have f1 := AutoSeq1.idx_int
    wp_walk using AutoSeq1.wpAny_loadPart' hl
    repeat (first
      | (refine wpAny_ite_false (decide_eq_false (by rw [c0]; exact Bool.false_ne_true)) ?_; wp_walk using AutoSeq1.wpAny_loadPart' hl)
      | (refine wpAny_ite_true (decide_eq_true c1) ?_; wp_walk using AutoSeq1.wpAny_loadPart' hl))
    exact ⟨_, rfl, h⟩
theorem tuple_mulN (l : Addr) (items : Array Value) (n : Nat) (dd : Option Addr) (sl : Array (Option Value)) (x : Int) (u : Tok) (c0 : (decide (x < -(2 ^ 63)) || decide (x ≥ 2 ^ 63)) = false) (c1 : (items.isEmpty || x == 1) = false) (c2 : (decide (x ≤ 0) || items.isEmpty) = true) :
    Meets (Builtin.«tuple.__mul__» ⟨[.ref l, .int x u], []⟩) (fun _ R s => s.heap.get? l = some { cls := .type "tuple", dict := dd, data := .seq items n, slots := sl } ∧
      R (.ok (.ret (Value.ref s.heap.objs.size))) { s with heap := s.heap.push { cls := Value.type "tuple", data := Data.seq #[] }, toks := s.toks }) :=
  .of_wp fun prog w A R s h => by
    obtain ⟨hp, g, d, tk, os⟩ := s
    obtain ⟨hl, h⟩ := h
    have f1 := AutoSeq1.idx_int
    wp_walk using AutoSeq1.wpAny_loadPart' hl
    repeat (first
      | (refine wpAny_ite_false (decide_eq_false (by rw [c0]; exact Bool.false_ne_true)) ?_; wp_walk using AutoSeq1.wpAny_loadPart' hl)
      | (refine wpAny_ite_false (decide_eq_false (by rw [c1]; exact Bool.false_ne_true)) ?_; wp_walk using AutoSeq1.wpAny_loadPart' hl)
      | (refine wpAny_ite_true (decide_eq_true c2) ?_; wp_walk using AutoSeq1.wpAny_loadPart' hl))
    exact ⟨_, rfl, h⟩
/-- a tuple times an int -/
def rRepU (K : PySem.W.Frag) : R2 := fun x y H Q => ∃ l k xs, x = .ref l ∧ y = .int k ∧ SqT K H l xs ∧ -(2 ^ 62) ≤ k ∧ k < 2 ^ 62 ∧ xs.length * k.toNat ≤ sizeLine ∧ (xs = [] ∨ k = 1 → Q (.ref l) H) ∧
  (xs ≠ [] → k ≠ 1 → ∀ p, H p = none → Q (.ref p) (upd H p (.tup (List.replicate k.toNat xs).flatten)))
theorem op_repU {X : Cx} : OpR X (binaryOp .Mult) (rRepU X.K) := by
  intro pins s σ H x y v u Q I rx ry h
  obtain ⟨l, k, xs, rfl, rfl, hT, h1, h2, hz, q0, q⟩ := h
  cases rx
  obtain ⟨t, rfl⟩ := ry
  obtain ⟨its, r, ⟨⟨cls, dd, data, sl⟩, ho, hc, n, hd⟩, hs⟩ := I.tuple hT
  simp only at hc hd
  subst hc hd
  have e62 : (2 : Int) ^ 62 = 4611686018427387904 := by decide
  have e63 : (2 : Int) ^ 63 = 9223372036854775808 := by decide
  rw [e62] at h1 h2
  rw [sizeLine_is] at hz
  have hle : its.length = xs.length := r.length.symm
  have c0 : (decide (k < -(2 ^ 63)) || decide (k ≥ 2 ^ 63)) = false := by
    rw [e63, decide_eq_false (by omega), decide_eq_false (by omega)] <;> rfl
  refine wpAny_binaryOp_repeat_ref (T := "tuple") (U := "int") (by decide) ⟨_, ho, rfl⟩ (fun s' => typeIs_int s' k t) noFill_tuple_mul F.fills_int_mul F.slot_int_rmul repeat_tuple F.slot_int_index.lookup
    (call_meets F.slot_int_rmul (typeIs_int s k t) F.entry_int_rmul (F.args_int_rmul_2 _ _) (int_rmul_tuple k t l its.toArray n dd sl) ⟨ho, rfl, ⟨_, ho, rfl⟩, ?_⟩)
  have hem : its.toArray.isEmpty = true ↔ xs = [] := by
    constructor
    · intro e
      have : its = [] := by cases its with
        | nil => rfl
        | cons a b => cases e
      rw [this] at hle
      exact List.eq_nil_of_length_eq_zero hle.symm
    · intro e
      rw [e] at hle
      have : its = [] := List.eq_nil_of_length_eq_zero hle
      rw [this] <;> rfl
  by_cases c1 : (its.toArray.isEmpty || k == 1) = true
  · refine call_meets F.slot_tuple_mul ⟨_, ho, rfl⟩ F.entry_tuple_mul (F.args_tuple_mul_2 _ _) (tuple_mulS l its.toArray n dd sl k t c0 c1) ⟨ho, ?_⟩
    refine ⟨.ref l, H, I, rfl, q0 ?_⟩
    rcases Bool.or_eq_true_iff.mp c1 with c | c
    · exact .inl (hem.mp c)
    · exact .inr (eq_of_beq c)
  · have c1 : (its.toArray.isEmpty || k == 1) = false := by simpa using c1
    have c1' := c1
    rw [Bool.or_eq_false_iff] at c1'
    have hne : xs ≠ [] := fun e => by rw [hem.mpr e] at c1'; cases c1'.1
    have hk1 : k ≠ 1 := by simpa using c1'.2
    have q := q hne hk1
    by_cases c2 : k ≤ 0
    · refine call_meets F.slot_tuple_mul ⟨_, ho, rfl⟩ F.entry_tuple_mul (F.args_tuple_mul_2 _ _) (tuple_mulN l its.toArray n dd sl k t c0 c1 (by rw [decide_eq_true c2] <;> rfl)) ⟨ho, ?_⟩
      have e : k.toNat = 0 := by omega
      rw [e] at q
      exact ⟨.ref s.heap.objs.size, _, I.laid (t' := s.toks) (o := .tup []) (fun b ob q => Heap.get?_push_of_some _ q) (Nat.le_refl _) ⟨Nat.zero_le _, [], .nil, IsTup.new _ _⟩, rfl, q _ (I.hok.fresh (Nat.le_refl _))⟩
    · obtain ⟨m, rfl⟩ := Int.eq_ofNat_of_zero_le (show 0 ≤ k by omega)
      rw [Int.toNat_natCast] at hz q
      have hprod : ((its.toArray.size : Nat) : Int) * (m : Int) ≤ 16777216 := by
        rw [List.size_toArray, hle, ← Int.natCast_mul]
        omega
      have c4 : Builtin.Tuple.tupleTooMany (((its.toArray.size : Nat) : Int) * (m : Int)) = false := by
        unfold Builtin.Tuple.tupleTooMany
        rw [sizeLine_is]
        exact decide_eq_false (by omega)
      have flen : (List.replicate m its).flatten.length ≤ 16777216 := by
        rw [PyProof.Rows.lm_len_rep_flat, hle, Nat.mul_comm]
        exact hz
      refine call_meets F.slot_tuple_mul ⟨_, ho, rfl⟩ F.entry_tuple_mul (F.args_tuple_mul_2 _ _) (tuple_mulW l its.toArray n dd sl m t c0 c1 (by rw [c1'.1, Bool.or_false]; exact decide_eq_false c2) (by rw [e63]; omega) c4 (by rw [Int.toNat_natCast, size_rep, List.size_toArray, sizeLine_is]; exact flen)) ⟨ho, ?_⟩
      rw [Int.toNat_natCast, size_rep]
      refine ⟨.ref s.heap.objs.size, _, I.laid (t' := s.toks) (o := .tup (List.replicate m xs).flatten) (fun b ob q => Heap.get?_push_of_some _ q) (Nat.le_refl _) ?_, rfl, q _ (I.hok.fresh (Nat.le_refl _))⟩
      exact ⟨by rw [PyProof.Rows.lm_len_rep_flat, sizeLine_is, Nat.mul_comm]; exact hz, _, r.rep m, IsTup.new _ _⟩
def rMulD (K : PySem.W.Frag) : R2 := fun x y H Q => rI CMul (fun i j => .int (i * j)) x y H Q ∨ rMulS x y H Q ∨ rRep x y H Q ∨ rRepU K x y H Q
theorem op_mulD {X : Cx} : OpR X (binaryOp .Mult) (rMulD X.K) := op_mul.or (op_mulS.or (op_rep.or op_repU))
theorem rept_mem {α : Type} {xs : List α} {k : Int} : ∀ x ∈ rept xs k, x ∈ xs := fun x h => by
  unfold rept at h
  rw [List.mem_flatten] at h
  obtain ⟨l, h1, h2⟩ := h
  obtain ⟨_, rfl⟩ := List.mem_replicate.mp h1
  exact h2
theorem ok_mul : OpOk K (r2n (rMulD K)) (opSem .mul) := by
  intro vs ds H Q d pk h hQ
  match ds, pk, h with
  | [x, y], pk, h =>
    obtain ⟨v, u, F, G, rfl, r1, r2⟩ := pk.two
    have h : opMul x y = some d := h
    refine ⟨v, u, rfl, ?_⟩
    unfold opMul at h
    split at h
    · split at h
      · rename_i c
        obtain rfl := ii_inv h
        obtain rfl := r1.int_of
        obtain rfl := r2.int_of
        refine .inl ⟨_, _, rfl, rfl, ?_, fin_imm (r := True) hQ (.int _)⟩
        unfold mulOk at c
        rcases Bool.or_eq_true_iff.mp c with c | c
        · exact .inl (of_decide_eq_true c)
        · exact .inr (of_decide_eq_true c)
      · cases h
    · split at h
      · rename_i c
        cases h
        obtain ⟨rfl, c1⟩ := r1.str_of
        obtain rfl := r2.int_of
        refine .inr (.inl ⟨_, _, rfl, rfl, c.1, c.2.1, by rw [sOf_len]; exact le_line c.2.2, ?_⟩)
        have e : (⟨(List.replicate (Int.toNat ‹Int›) (sOf ‹List Nat›).cps.toList).flatten.toArray⟩ : Str) = sOf (rept ‹List Nat› ‹Int›) := by
          rw [sOf_cps] <;> rfl
        rw [e]
        exact fin_imm (r := True) hQ (.str _ (chrOk_sub c1 rept_mem))
      · cases h
    · split at h
      · rename_i c
        cases h
        obtain ⟨a, xs, rfl, s1, q1, _⟩ := r1.lst_of
        obtain rfl := r2.int_of
        have e62 : (2 : Int) ^ 62 = 4611686018427387904 := by decide
        have e63 : (2 : Int) ^ 63 = 9223372036854775808 := by decide
        rw [e62] at c
        refine .inr (.inr (.inl ⟨a, _, xs, rfl, rfl, s1, by rw [e63]; omega, by rw [e63]; omega, by rw [q1.length]; exact le_line c.2.2, fun p hp => fin_lst hQ hp (q1.rep _)⟩))
      · cases h
    · split at h
      · rename_i c
        cases h
        obtain ⟨a, xs, rfl, s1, q1⟩ := r1.tup_of
        obtain rfl := r2.int_of
        refine .inr (.inr (.inr ⟨a, _, xs, rfl, rfl, s1, c.1, c.2.1, by rw [q1.length]; exact le_line c.2.2, fun e => ?_, fun _ _ p hp => fin_tup hQ hp (q1.rep _)⟩))
        rcases e with e | e
        · subst e
          cases q1
          refine fin_imm (r := True) hQ ?_
          have : ∀ n : Nat, (List.replicate n ([] : List P)).flatten = [] := fun n => by induction n with
            | zero => rfl
            | succ n ih => rw [List.replicate_succ, List.flatten_cons, ih] <;> rfl
          unfold rept
          rw [this]
          exact .tup s1 .nil
        · subst e
          refine fin_imm (r := True) hQ ?_
          have : rept ‹List P› (1 : Int) = ‹List P› := by
            unfold rept
            show (List.replicate 1 _).flatten = _
            simp
          rw [this]
          exact .tup s1 q1
      · cases h
    · cases h
end
end Sw
set_option maxHeartbeats 1000000
/-! Sw, part 6: more operators by values. -/
namespace Sw
open PySem PySem.Spec PyProof.Rows L2
section
variable {K : PySem.W.Frag} {H : Hp}
/-! ### items -/
theorem atP_eq {α : Type} (xs : List α) (i : Int) : atP xs i = L2.atI xs i := rfl
theorem ixP_eq (n : Nat) (i : Int) : ixP n i = L2.ixN n i := rfl
theorem PReps.at_ {vs : List V} {ps : List P} {i : Int} {p : P} (h : PReps K H vs ps) (e : atP ps i = some p) : ∃ v, L2.atI vs i = some v ∧ PRep K H v p := by
  unfold atP at e
  obtain ⟨j, h1, h2⟩ := bind_some e
  obtain ⟨v, g1, g2⟩ := h.get h2
  refine ⟨v, ?_, g2⟩
  unfold L2.atI
  rw [h.length, ← ixP_eq, h1]
  exact g1
theorem ok_idx : OpOk K (r2n (rIx K)) (opSem .idx) := by
  intro vs ds H Q d pk h hQ
  match ds, pk, h with
  | [x, y], pk, h =>
    obtain ⟨v, u, F, G, rfl, r1, r2⟩ := pk.two
    have h : opIdx x y = some d := h
    refine ⟨v, u, rfl, ?_⟩
    unfold opIdx at h
    split at h
    · split at h
      · rename_i c
        obtain ⟨a, h1, h2⟩ := bind_some h
        cases h2
        obtain ⟨rfl, c1⟩ := r1.str_of
        obtain rfl := r2.int_of
        refine .inr (.inr ⟨_, _, a, rfl, rfl, by rw [sOf_len]; exact le_line c, by rw [sOf_cps]; exact h1, fin_imm (r := True) hQ (.str [a] ?_)⟩)
        unfold atP at h1
        obtain ⟨j, _, h3⟩ := bind_some h1
        exact chrOk_sub c1 fun x z => by rw [List.mem_singleton.mp z]; exact List.mem_of_getElem? h3
      · cases h
    · obtain ⟨a, h1, h2⟩ := bind_some h
      cases h2
      obtain ⟨b, xs, rfl, s1, q1⟩ := r1.tup_of
      obtain rfl := r2.int_of
      obtain ⟨v, g1, g2⟩ := q1.at_ h1
      exact .inr (.inl ⟨b, xs, _, v, rfl, rfl, s1, g1, fin_imm (r := True) hQ g2⟩)
    · obtain ⟨a, h1, h2⟩ := bind_some h
      cases h2
      obtain ⟨b, xs, rfl, s1, q1⟩ := r1.flst_of
      obtain rfl := r2.int_of
      obtain ⟨v, g1, g2⟩ := q1.at_ h1
      exact .inl ⟨b, xs, _, v, rfl, rfl, s1.sql, g1, fin_imm (r := True) hQ g2⟩
    · obtain ⟨a, h1, h2⟩ := bind_some h
      cases h2
      obtain ⟨b, xs, rfl, s1, q1, _⟩ := r1.lst_of
      obtain rfl := r2.int_of
      obtain ⟨v, g1, g2⟩ := q1.at_ h1
      exact .inl ⟨b, xs, _, v, rfl, rfl, SqL.of s1, g1, fin_imm (r := True) hQ g2⟩
    · cases h
/-! ### <, <=, >, >= -/
def rCmpD (f : Int → Int → Bool) (g : List Nat → List Nat → Bool) : R2 := fun x y H Q => rI0 (fun i j => .bl (f i j)) x y H Q ∨ (∃ i j, x = .str i ∧ y = .str j ∧ Q (.bl (g i.cps.toList j.cps.toList)) H)
theorem op_ltD {X : Cx} : OpR X (compareOp .Lt) (rCmpD (fun i j => decide (i < j)) fun a b => decide (a < b)) := op_lt.or op_lt_str
theorem op_leD {X : Cx} : OpR X (compareOp .LtE) (rCmpD (fun i j => decide (i ≤ j)) fun a b => !decide (b < a)) := op_le.or op_le_str
theorem op_gtD {X : Cx} : OpR X (compareOp .Gt) (rCmpD (fun i j => decide (j < i)) fun a b => decide (b < a)) := op_gt.or op_gt_str
theorem op_geD {X : Cx} : OpR X (compareOp .GtE) (rCmpD (fun i j => decide (j ≤ i)) fun a b => !decide (a < b)) := op_ge.or op_ge_str
theorem ok_cmpI {o : Op} {f : Int → Int → Bool} {g : List Nat → List Nat → Bool} (hs : ∀ x y, opSem o [x, y] = opCmpI f g x y) (hs0 : opSem o [] = none) (hs1 : ∀ x, opSem o [x] = none) (hs3 : ∀ x y z r, opSem o (x :: y :: z :: r) = none) : OpOk K (r2n (rCmpD f g)) (opSem o) := by
  intro vs ds H Q d pk h hQ
  match ds, pk, h with
  | [], _, h => rw [hs0] at h; cases h
  | [x], _, h => rw [hs1] at h; cases h
  | x :: y :: z :: r, _, h => rw [hs3] at h; cases h
  | [x, y], pk, h =>
    rw [hs] at h
    obtain ⟨v, u, F, G, rfl, r1, r2⟩ := pk.two
    refine ⟨v, u, rfl, ?_⟩
    unfold opCmpI at h
    split at h
    · obtain rfl := ib_inv h
      obtain rfl := r1.int_of
      obtain rfl := r2.int_of
      exact .inl ⟨_, _, rfl, rfl, fin_imm (r := True) hQ (.bl _)⟩
    · obtain rfl := ib_inv h
      obtain ⟨rfl, c1⟩ := r1.str_of
      obtain ⟨rfl, c2⟩ := r2.str_of
      refine .inr ⟨_, _, rfl, rfl, ?_⟩
      rw [sOf_cps, sOf_cps]
      exact fin_imm (r := True) hQ (.bl _)
    · cases h
theorem ok_lt : OpOk K (r2n (rCmpD (fun i j => decide (i < j)) fun a b => decide (a < b))) (opSem .lt) := ok_cmpI (fun _ _ => rfl) rfl (fun _ => rfl) fun _ _ _ _ => rfl
theorem ok_le : OpOk K (r2n (rCmpD (fun i j => decide (i ≤ j)) fun a b => !decide (b < a))) (opSem .le) := ok_cmpI (fun _ _ => rfl) rfl (fun _ => rfl) fun _ _ _ _ => rfl
theorem ok_gt : OpOk K (r2n (rCmpD (fun i j => decide (j < i)) fun a b => decide (b < a))) (opSem .gt) := ok_cmpI (fun _ _ => rfl) rfl (fun _ => rfl) fun _ _ _ _ => rfl
theorem ok_ge : OpOk K (r2n (rCmpD (fun i j => decide (j ≤ i)) fun a b => !decide (a < b))) (opSem .ge) := ok_cmpI (fun _ _ => rfl) rfl (fun _ => rfl) fun _ _ _ _ => rfl
/-! ### is None -/
theorem Rep.non_iff {v : V} {d : D} {F : List Addr} (h : Rep K H v d F) : decide (v = .non) = decide (d = .imm .non) := by
  cases h with
  | imm r => cases r <;> simp
  | lst e r => simp
theorem ok_isN : OpOk K (r1n fun x H Q => Q (.bl (decide (x = .non))) H) (opSem .isN) := by
  intro vs ds H Q d pk h hQ
  match ds, pk, h with
  | [x], pk, h =>
    obtain ⟨v, F, rfl, r1⟩ := pk.one
    obtain rfl := ib_inv (show ib (decide (x = .imm .non)) = some d from h)
    refine ⟨v, rfl, ?_⟩
    show Q (.bl (decide (v = .non))) H
    rw [r1.non_iff]
    exact fin_imm (r := True) hQ (.bl _)
theorem ok_notN : OpOk K (r1n fun x H Q => Q (.bl (!decide (x = .non))) H) (opSem .notN) := by
  intro vs ds H Q d pk h hQ
  match ds, pk, h with
  | [x], pk, h =>
    obtain ⟨v, F, rfl, r1⟩ := pk.one
    obtain rfl := ib_inv (show ib (!decide (x = .imm .non)) = some d from h)
    refine ⟨v, rfl, ?_⟩
    show Q (.bl (!decide (v = .non))) H
    rw [r1.non_iff]
    exact fin_imm (r := True) hQ (.bl _)
/-! ### in, not in -/
theorem subAt_iff (x y : List Nat) (i : Nat) : (i + (sOf y).length ≤ (sOf x).length ∧ Builtin.Str.subAt (sOf x) (sOf y) i = true) ↔ (y.isPrefixOf (x.drop i) = true ∧ i ≤ x.length) := by
  rw [sOf_len, sOf_len]
  have e : Builtin.Str.subAt (sOf x) (sOf y) i = ((x.drop i).take y.length == y) := by
    unfold Builtin.Str.subAt
    rw [sOf_len]
    simp [sOf, PySem.StrLaws.subAt_eq]
  rw [e, List.isPrefixOf_iff_prefix, beq_iff_eq]
  constructor
  · rintro ⟨h1, h2⟩
    refine ⟨?_, by omega⟩
    rw [← h2]
    exact List.take_prefix _ _
  · rintro ⟨h1, h2⟩
    have h3 := h1.length_le
    rw [List.length_drop] at h3
    exact ⟨by omega, (List.prefix_iff_eq_take.mp h1).symm⟩
theorem findAt_iff (y : List Nat) : ∀ (x : List Nat) (n : Nat), (findAt y x n).isSome = true ↔ ∃ i, y.isPrefixOf (x.drop i) = true ∧ i ≤ x.length
  | [], n => by
    unfold findAt
    constructor
    · intro h
      split at h
      · rename_i c
        exact ⟨0, by cases y with | nil => rfl | cons a b => simp at c, Nat.le_refl _⟩
      · cases h
    · rintro ⟨i, h1, h2⟩
      rw [List.drop_nil] at h1
      cases y with
      | nil => rfl
      | cons a b => simp at h1
  | x :: xs, n => by
    unfold findAt
    by_cases c : y.isPrefixOf (x :: xs) = true
    · rw [if_pos c]
      exact ⟨fun _ => ⟨0, c, Nat.zero_le _⟩, fun _ => rfl⟩
    · rw [if_neg c, findAt_iff y xs (n + 1)]
      constructor
      · rintro ⟨i, h1, h2⟩
        exact ⟨i + 1, h1, by simp only [List.length_cons]; omega⟩
      · rintro ⟨i, h1, h2⟩
        cases i with
        | zero => exact absurd h1 c
        | succ i => exact ⟨i, h1, by simp only [List.length_cons] at h2; omega⟩
theorem found_eq (y x : List Nat) : (!(Builtin.Str.occurrences (sOf x) (sOf y) 0 (sOf x).length 1).isEmpty) = (findAt y x 0).isSome := by
  rw [Bool.eq_iff_iff, PySem.StrLaws.found_iff, findAt_iff]
  exact exists_congr fun i => subAt_iff x y i
def rInP (K : PySem.W.Frag) (b : Bool) : R2 := fun x y H Q => (∃ i j, x = .str i ∧ y = .str j ∧ Q (.bl (xor b (!(Builtin.Str.occurrences j i 0 j.length 1).isEmpty))) H) ∨
  ∃ d ds, Dp K H x d ∧ (Dp K H y (.list ds) ∨ Dp K H y (.tuple ds)) ∧ PyData.canLayAll0 ds = true ∧ d.canLay0 = true ∧ min (PyData.depthAll ds) d.depth ≤ 50 ∧ Q (.bl (xor b (ds.any fun z => PyData.eqv z d))) H
theorem op_inP {X : Cx} (hu : X.A.units + 64 < cLine) : OpR X (compareOp .In) (rInP X.K false) := by
  intro pins s σ H x y v u Q I rx ry h
  rcases h with h | ⟨d, ds, hd, he, sd, se, hm, q⟩
  · simp only [Bool.false_xor] at h
    exact op_in_str pins s σ H x y v u Q I rx ry h
  · simp only [Bool.false_xor] at q
    obtain ⟨as, r1⟩ := Dp.reads I d x v hd rx
    rcases he with he | he
    · obtain ⟨bs, r2⟩ := Dp.reads I (.list ds) y u he ry
      exact SeqAt.in_list_reads r2 r1 sd se (by omega) ⟨.bl _, H, I, rfl, q⟩
    · obtain ⟨bs, r2⟩ := Dp.reads I (.tuple ds) y u he ry
      exact SeqAt.in_tuple_reads r2 r1 sd se (by omega) ⟨.bl _, H, I, rfl, q⟩
theorem op_notInP {X : Cx} (hu : X.A.units + 64 < cLine) : OpR X (compareOp .NotIn) (rInP X.K true) := by
  intro pins s σ H x y v u Q I rx ry h
  rcases h with h | ⟨d, ds, hd, he, sd, se, hm, q⟩
  · simp only [Bool.true_xor] at h
    exact L2.op_notIn_str pins s σ H x y v u Q I rx ry h
  · simp only [Bool.true_xor] at q
    obtain ⟨as, r1⟩ := Dp.reads I d x v hd rx
    rcases he with he | he
    · obtain ⟨bs, r2⟩ := Dp.reads I (.list ds) y u he ry
      exact SeqAt.notIn_list_reads r2 r1 sd se (by omega) ⟨.bl _, H, I, rfl, q⟩
    · obtain ⟨bs, r2⟩ := Dp.reads I (.tuple ds) y u he ry
      exact SeqAt.notIn_tuple_reads r2 r1 sd se (by omega) ⟨.bl _, H, I, rfl, q⟩
theorem any_py (p : P) : ∀ ps : List P, ((toPys ps).any fun z => PyData.eqv z (toPy p)) = ps.any fun z => peq z p
  | [] => rfl
  | q :: ps => by rw [toPys, List.any_cons, List.any_cons, any_py p ps, eqv_py]
theorem in_inv {b : Bool} {x y : D} {v u : V} {F G : List Addr} {k : Bool} {Q : VK} (r1 : Rep K H v x F) (r2 : Rep K H u y G) (h : opIn x y = some k)
    (hQ : ∀ v H' F, Same H H' → Rep K H' v (.imm (.bl (xor b k))) F → (∀ a ∈ F, H a = none) → F.Nodup → Q v H') : rInP K b v u H Q := by
  unfold opIn at h
  split at h
  · cases h
    obtain ⟨rfl, c1⟩ := r1.str_of
    obtain ⟨rfl, c2⟩ := r2.str_of
    refine .inl ⟨_, _, rfl, rfl, ?_⟩
    rw [found_eq]
    exact fin_imm (r := True) hQ (.bl _)
  · split at h
    · rename_i c
      cases h
      obtain ⟨q1, _⟩ := r1.imm_of
      obtain ⟨q2, _⟩ := r2.imm_of
      refine .inr ⟨toPy _, toPys _, q1.dp, .inr q2.dp, by have := q2.lay; simpa [toPy, PyData.canLay0] using this, q1.lay, by rw [depth_py, depths_py]; exact c, ?_⟩
      rw [any_py]
      exact fin_imm (r := True) hQ (.bl _)
    · cases h
  · split at h
    · rename_i c
      cases h
      obtain ⟨q1, _⟩ := r1.imm_of
      obtain ⟨q2, _⟩ := r2.imm_of
      refine .inr ⟨toPy _, toPys _, q1.dp, .inl q2.dp, by have := q2.lay; simpa [toPy, PyData.canLay0] using this, q1.lay, by rw [depth_py, depths_py]; exact c, ?_⟩
      rw [any_py]
      exact fin_imm (r := True) hQ (.bl _)
    · cases h
  · split at h
    · rename_i c
      cases h
      obtain ⟨q1, _⟩ := r1.imm_of
      refine .inr ⟨toPy _, toPys _, q1.dp, .inl r2.dp, by have := r2.lay; simpa [rd, toPy, PyData.canLay0] using this, q1.lay, by rw [depth_py, depths_py]; exact c, ?_⟩
      rw [any_py]
      exact fin_imm (r := True) hQ (.bl _)
    · cases h
  · cases h
theorem ok_isin : OpOk K (r2n (rInP K false)) (opSem .isin) := by
  intro vs ds H Q d pk h hQ
  match ds, pk, h with
  | [x, y], pk, h =>
    obtain ⟨v, u, F, G, rfl, r1, r2⟩ := pk.two
    obtain ⟨k, h1, h2⟩ := bind_some (show (opIn x y).bind ib = some d from h)
    obtain rfl := ib_inv h2
    exact ⟨v, u, rfl, in_inv r1 r2 h1 (by simpa using hQ)⟩
theorem ok_notin : OpOk K (r2n (rInP K true)) (opSem .notin) := by
  intro vs ds H Q d pk h hQ
  match ds, pk, h with
  | [x, y], pk, h =>
    obtain ⟨v, u, F, G, rfl, r1, r2⟩ := pk.two
    obtain ⟨k, h1, h2⟩ := bind_some (show (opIn x y).bind (fun b => ib (!b)) = some d from h)
    obtain rfl := ib_inv h2
    exact ⟨v, u, rfl, in_inv r1 r2 h1 (by simpa using hQ)⟩
end
end Sw
set_option maxHeartbeats 1000000
/-! Sw, part 7: built-ins by values. -/
namespace Sw
open PySem PySem.Spec PyProof.Rows L2
section
variable {K : PySem.W.Frag} {H : Hp}
/-! ### len -/
def rLenD (K : PySem.W.Frag) : List V → Hp → VK → Prop := fun xs H Q => ∃ x n, xs = [x] ∧ LenV K x H n ∧ Q (.int n) H
theorem ok_len : OpOk K (rLenD K) (opSem .len) := by
  intro vs ds H Q d pk h hQ
  match ds, pk, h with
  | [x], pk, h =>
    obtain ⟨v, F, rfl, r1⟩ := pk.one
    have h : opLen x = some d := h
    unfold opLen at h
    split at h
    · split at h
      · rename_i c
        obtain rfl := ii_inv h
        obtain ⟨rfl, c1⟩ := r1.str_of
        refine ⟨_, (sOf _).length, rfl, ⟨by rw [sOf_len]; exact le_line c, rfl⟩, ?_⟩
        rw [sOf_len]
        exact fin_imm (r := True) hQ (.int _)
      · cases h
    · obtain rfl := ii_inv h
      obtain ⟨a, xs, rfl, s1, q1⟩ := r1.tup_of
      refine ⟨_, xs.length, rfl, .inr ⟨xs, s1, rfl⟩, ?_⟩
      rw [q1.length]
      exact fin_imm (r := True) hQ (.int _)
    · obtain rfl := ii_inv h
      obtain ⟨a, xs, rfl, s1, q1⟩ := r1.flst_of
      refine ⟨_, xs.length, rfl, .inl ⟨xs, s1.sql, rfl⟩, ?_⟩
      rw [q1.length]
      exact fin_imm (r := True) hQ (.int _)
    · obtain rfl := ii_inv h
      obtain ⟨a, xs, rfl, s1, q1, _⟩ := r1.lst_of
      refine ⟨_, xs.length, rfl, .inl ⟨xs, SqL.of s1, rfl⟩, ?_⟩
      rw [q1.length]
      exact fin_imm (r := True) hQ (.int _)
    · cases h
/-! ### list(x), tuple(x) -/
def rListS : List V → Hp → VK → Prop := fun xs H Q => ∃ z : Str, xs = [.str z] ∧ z.length ≤ sizeLine ∧ ∀ l, H l = none → Q (.ref l) (upd H l (.lst (z.cps.toList.map fun c => .str ⟨#[c]⟩)))
theorem vals_of_items : ∀ {xs : List V} {its : List Value}, xs.length = its.length → (∀ (i : Nat) (v : Value), its[i]? = some v → ∃ x, xs[i]? = some x ∧ RelV x v) → Vals xs its
  | [], [], _, _ => .nil
  | [], _ :: _, h, _ => by simp at h
  | _ :: _, [], h, _ => by simp at h
  | x :: xs, v :: its, h, f => by
    obtain ⟨y, h1, h2⟩ := f 0 v rfl
    simp at h1
    subst h1
    exact .cons h2 (vals_of_items (by simpa using h) fun i u e => by simpa using f (i + 1) u (by simpa using e))
theorem vals_signs {x : Str} {acc : Array Value} (h : ItemsOf (SignAt x) acc x.cps.size) : Vals (x.cps.toList.map fun c => .str ⟨#[c]⟩) acc.toList := by
  refine vals_of_items (by simp [h.1]) fun i v e => ?_
  obtain ⟨c, u, h1, rfl⟩ := h.2 i v (by simpa using e)
  refine ⟨.str ⟨#[c]⟩, ?_, u, rfl⟩
  rw [List.getElem?_map]
  have : x.cps.toList[i]? = some c := by simpa using h1
  rw [this]
  rfl
theorem call_listS {X : Cx} (hc : X.calm = true) : CallR X (.type "list") rListS := by
  intro pins s σ H xs us Q I r h
  obtain ⟨z, rfl, hz, q⟩ := h
  obtain ⟨u, rfl, t, rfl⟩ := vals1 r
  refine call_list_str (I.ok.hd hc) z t (fun h' tk acc' c' hk hS hacc => ?_) hz
  refine ⟨.ref _, _, I.laid (t' := tk) (o := .lst (z.cps.toList.map fun c => .str ⟨#[c]⟩)) hk (Nat.le_refl _) ?_, rfl, q _ (I.hok.fresh (Nat.le_refl _))⟩
  refine ⟨by simpa [Str.length] using hz, acc'.toList, c', vals_signs hacc, ?_⟩
  rw [hS]
def rTupS : List V → Hp → VK → Prop := fun xs H Q => ∃ z : Str, xs = [.str z] ∧ z.length ≤ sizeLine ∧ ∀ l, H l = none → Q (.ref l) (upd H l (.tup (z.cps.toList.map fun c => .str ⟨#[c]⟩)))
theorem call_tupS {X : Cx} (hc : X.calm = true) : CallR X (.type "tuple") rTupS := by
  intro pins s σ H xs us Q I r h
  obtain ⟨z, rfl, hz, q⟩ := h
  obtain ⟨u, rfl, t, rfl⟩ := vals1 r
  refine call_tuple_str (I.ok.hd hc) z t (fun h' tk acc' hk hacc => ?_) hz
  have I1 : Inv X pins σ H { s with heap := h', toks := tk } := I.kept hk
  refine ⟨.ref _, _, I1.laid (t' := tk) (o := .tup (z.cps.toList.map fun c => .str ⟨#[c]⟩)) (fun b u e => Heap.get?_push_of_some _ e) (Nat.le_refl _) ?_, rfl, q _ (I1.hok.fresh (Nat.le_refl _))⟩
  exact ⟨by simpa [Str.length] using hz, acc'.toList, vals_signs hacc, _, Heap.get?_push_size _ rfl, rfl, 0, by simp⟩
def rListD (K : PySem.W.Frag) : List V → Hp → VK → Prop := fun xs H Q => (∃ p ys, xs = [.ref p] ∧ (SqL K H p ys ∨ SqT K H p ys) ∧ ∀ l, H l = none → Q (.ref l) (upd H l (.lst ys))) ∨ rListS xs H Q
theorem call_listD {X : Cx} (hc : X.calm = true) : CallR X (.type "list") (rListD X.K) := call_list_of.or (call_listS hc)
def rTupD (K : PySem.W.Frag) : List V → Hp → VK → Prop := fun xs H Q => (∃ p ys, xs = [.ref p] ∧ ((SqL K H p ys ∧ ∀ l, H l = none → Q (.ref l) (upd H l (.tup ys))) ∨ (SqT K H p ys ∧ Q (.ref p) H))) ∨ rTupS xs H Q
theorem call_tupD {X : Cx} (hc : X.calm = true) : CallR X (.type "tuple") (rTupD X.K) := call_tuple_of.or (call_tupS hc)
theorem signs_rep {s : List Nat} (h : chrOk s = true) : PReps K H ((sOf s).cps.toList.map fun c => V.str ⟨#[c]⟩) (s.map fun c => P.str [c]) := by
  rw [sOf_cps]
  induction s with
  | nil => exact .nil
  | cons c s ih =>
    exact .cons (.str [c] (chrOk_sub h fun x z => by rw [List.mem_singleton.mp z]; exact List.mem_cons_self)) (ih (chrOk_sub h fun x z => List.mem_cons_of_mem _ z))
theorem ok_list : OpOk K (rListD K) (opSem .list) := by
  intro vs ds H Q d pk h hQ
  match ds, pk, h with
  | [x], pk, h =>
    obtain ⟨v, F, rfl, r1⟩ := pk.one
    have h : opList x = some d := h
    unfold opList at h
    obtain ⟨ps, h1, h2⟩ := bind_some h
    split at h2
    · rename_i hl
      cases h2
      by_cases hs : ∃ s, x = .imm (.str s)
      · obtain ⟨s, rfl⟩ := hs
        obtain ⟨rfl, c1⟩ := r1.str_of
        cases h1
        rw [List.length_map] at hl
        exact .inr ⟨_, rfl, by rw [sOf_len]; exact le_line hl, fun p hp => fin_lst hQ hp (signs_rep c1)⟩
      · obtain ⟨a, xs, rfl, s1, q1⟩ := r1.seq_of h1 fun s e => hs ⟨s, e⟩
        exact .inl ⟨a, xs, rfl, s1, fun p hp => fin_lst hQ hp q1⟩
    · cases h2
theorem ok_tuple : OpOk K (rTupD K) (opSem .tuple) := by
  intro vs ds H Q d pk h hQ
  match ds, pk, h with
  | [x], pk, h =>
    obtain ⟨v, F, rfl, r1⟩ := pk.one
    have h : opTuple x = some d := h
    unfold opTuple at h
    obtain ⟨ps, h1, h2⟩ := bind_some h
    split at h2
    · rename_i hl
      cases h2
      by_cases hs : ∃ s, x = .imm (.str s)
      · obtain ⟨s, rfl⟩ := hs
        obtain ⟨rfl, c1⟩ := r1.str_of
        cases h1
        rw [List.length_map] at hl
        exact .inr ⟨_, rfl, by rw [sOf_len]; exact le_line hl, fun p hp => fin_tup hQ hp (signs_rep c1)⟩
      · obtain ⟨a, xs, rfl, s1, q1⟩ := r1.seq_of h1 fun s e => hs ⟨s, e⟩
        rcases s1 with s1 | s1
        · exact .inl ⟨a, xs, rfl, .inl ⟨s1, fun p hp => fin_tup hQ hp q1⟩⟩
        · exact .inl ⟨a, xs, rfl, .inr ⟨s1, fin_imm (r := True) hQ (.tup s1 q1)⟩⟩
    · cases h2
/-! ### int, sum, all, any, join, index -/
def rIntD : List V → Hp → VK → Prop := fun xs H Q => (∃ i, xs = [.int i] ∧ Q (.int i) H) ∨ ∃ k, xs = [.bl k] ∧ Q (.int (if k then 1 else 0)) H
theorem ok_int : OpOk K rIntD (opSem .int) := by
  intro vs ds H Q d pk h hQ
  match ds, pk, h with
  | [x], pk, h =>
    obtain ⟨v, F, rfl, r1⟩ := pk.one
    have h : opInt x = some d := h
    unfold opInt at h
    split at h
    · obtain rfl := ii_inv h
      obtain rfl := r1.int_of
      exact .inl ⟨_, rfl, fin_imm (r := True) hQ (.int _)⟩
    · obtain rfl := ii_inv h
      obtain rfl := r1.bl_of
      exact .inr ⟨_, rfl, fin_imm (r := True) hQ (.int _)⟩
    · cases h
theorem allInts_eq : ∀ {ps : List P} {ns : List Int}, allInts ps = some ns → ps = ns.map P.int
  | [], ns, h => by cases h; rfl
  | .int i :: ps, ns, h => by
    unfold allInts at h
    cases q : allInts ps with
    | none => rw [q] at h; cases h
    | some ms => rw [q] at h; cases h; rw [allInts_eq q] <;> rfl
  | .non :: _, _, h => by cases h
  | .bl _ :: _, _, h => by cases h
  | .str _ :: _, _, h => by cases h
  | .tup _ :: _, _, h => by cases h
  | .lst _ :: _, _, h => by cases h
theorem allBls_eq : ∀ {ps : List P} {ns : List Bool}, allBls ps = some ns → ps = ns.map P.bl
  | [], ns, h => by cases h; rfl
  | .bl i :: ps, ns, h => by
    unfold allBls at h
    cases q : allBls ps with
    | none => rw [q] at h; cases h
    | some ms => rw [q] at h; cases h; rw [allBls_eq q] <;> rfl
  | .non :: _, _, h => by cases h
  | .int _ :: _, _, h => by cases h
  | .str _ :: _, _, h => by cases h
  | .tup _ :: _, _, h => by cases h
  | .lst _ :: _, _, h => by cases h
theorem allStrs_eq : ∀ {ps : List P} {ns : List (List Nat)}, allStrs ps = some ns → ps = ns.map P.str
  | [], ns, h => by cases h; rfl
  | .str i :: ps, ns, h => by
    unfold allStrs at h
    cases q : allStrs ps with
    | none => rw [q] at h; cases h
    | some ms => rw [q] at h; cases h; rw [allStrs_eq q] <;> rfl
  | .non :: _, _, h => by cases h
  | .int _ :: _, _, h => by cases h
  | .bl _ :: _, _, h => by cases h
  | .tup _ :: _, _, h => by cases h
  | .lst _ :: _, _, h => by cases h
/-- lists alone -/
theorem Rep.list_of {v : V} {d : D} {F : List Addr} {ps : List P} (h : Rep K H v d F) (e : listOf d = some ps) : ∃ a xs, v = .ref a ∧ SqL K H a xs ∧ PReps K H xs ps := by
  cases d with
  | lst qs =>
    obtain ⟨a, xs, h1, h2, h3, _⟩ := h.lst_of
    cases e
    exact ⟨a, xs, h1, SqL.of h2, h3⟩
  | imm p =>
    cases p with
    | lst qs =>
      obtain ⟨a, xs, h1, h2, h3⟩ := h.flst_of
      cases e
      exact ⟨a, xs, h1, h2.sql, h3⟩
    | _ => cases e
theorem ok_sum : OpOk K (rSum K) (opSem .sum) := by
  intro vs ds H Q d pk h hQ
  match ds, pk, h with
  | [x], pk, h =>
    obtain ⟨v, F, rfl, r1⟩ := pk.one
    obtain ⟨ps, h1, h2⟩ := bind_some (show opSum x = some d from h)
    obtain ⟨ns, h3, h4⟩ := bind_some h2
    obtain rfl := ii_inv h4
    obtain rfl := allInts_eq h3
    obtain ⟨a, xs, rfl, s1, q1⟩ := r1.list_of h1
    obtain rfl := q1.of_ints
    exact ⟨a, ns, rfl, s1, fin_imm (r := True) hQ (.int _)⟩
/-! any, all, of lists and tuples -/
mutual
theorem plain_py : ∀ p : P, (toPy p).plain = true
  | .non => by simp [toPy, PyData.plain]
  | .bl b => by simp [toPy, PyData.plain]
  | .int i => by simp [toPy, PyData.plain]
  | .str s => by simp [toPy, PyData.plain]
  | .tup ps => by simp [toPy, PyData.plain, plains_py ps]
  | .lst ps => by simp [toPy, PyData.plain, plains_py ps]
theorem plains_py : ∀ ps : List P, PyData.plainAll (toPys ps) = true
  | [] => by simp [toPys, PyData.plainAll]
  | p :: ps => by simp [toPys, PyData.plainAll, plain_py p, plains_py ps]
end
theorem toPys_len (ps : List P) : (toPys ps).length = ps.length := by rw [toPys_map, List.length_map]
theorem toPys_emp (ps : List P) : (toPys ps).isEmpty = ps.isEmpty := by cases ps <;> simp [toPys]
theorem truthy_py (p : P) : (toPy p).truthy = truthP p := by
  cases p with
  | str s => cases s <;> simp [toPy, PyData.truthy, truthP, sOf_len] <;> omega
  | tup ps => simp [toPy, PyData.truthy, truthP, toPys_emp]
  | lst ps => simp [toPy, PyData.truthy, truthP, toPys_emp]
  | _ => simp [toPy, PyData.truthy, truthP]
theorem fits_py {p : P} (h : fitP p = true) : (toPy p).fits63 := by
  have e63 : (2 : Int) ^ 63 = 9223372036854775808 := by decide
  have hl : (line : Nat) = 16777216 := rfl
  cases p with
  | str s => have := of_decide_eq_true h; simp only [toPy, PyData.fits63, sOf_len]; rw [e63]; omega
  | tup ps => have := of_decide_eq_true h; simp only [toPy, PyData.fits63, toPys_len]; rw [e63]; omega
  | lst ps => have := of_decide_eq_true h; simp only [toPy, PyData.fits63, toPys_len]; rw [e63]; omega
  | _ => simp only [toPy, PyData.fits63]
theorem any_truthy (ps : List P) : (toPys ps).any PyData.truthy = ps.any truthP := by
  rw [toPys_map, List.any_map]
  congr 1
  funext p
  exact truthy_py p
theorem all_truthy (ps : List P) : (toPys ps).all PyData.truthy = ps.all truthP := by
  rw [toPys_map, List.all_map]
  congr 1
  funext p
  exact truthy_py p
def rAnyD (K : PySem.W.Frag) : List V → Hp → VK → Prop := fun vs H Q => ∃ x ds, vs = [x] ∧ (Dp K H x (.list ds) ∨ Dp K H x (.tuple ds)) ∧ PyData.plainAll ds = true ∧ (∀ d ∈ ds, d.fits63) ∧ Q (.bl (ds.any PyData.truthy)) H
def rAllD (K : PySem.W.Frag) : List V → Hp → VK → Prop := fun vs H Q => ∃ x ds, vs = [x] ∧ (Dp K H x (.list ds) ∨ Dp K H x (.tuple ds)) ∧ PyData.plainAll ds = true ∧ (∀ d ∈ ds, d.fits63) ∧ Q (.bl (ds.all PyData.truthy)) H
theorem cr_anyD {X : Cx} (hc : X.calm = true) : CallR X (.builtin "any") (rAnyD X.K) := by
  intro pins s σ H vs us Q I r h
  obtain ⟨x, ds, rfl, hd, hp, hf, q⟩ := h
  obtain ⟨u, rfl, ru⟩ := Vals.one r
  rcases hd with hd | hd
  · cases hd with
    | lst hs ha =>
      obtain ⟨its, rv, hl, hz⟩ := I.list hs
      cases ru
      obtain ⟨as, hr⟩ := Dp.readsAll I ds _ its ha rv
      exact PySem.W.any_list_data (I.ok.hd hc) hl.isList hr hp hf fun h' tk hk => ⟨.bl _, H, I.kept hk, rfl, q⟩
  · cases hd with
    | tup hs ha =>
      obtain ⟨its, rv, hl, hz⟩ := I.tuple hs
      cases ru
      obtain ⟨as, hr⟩ := Dp.readsAll I ds _ its ha rv
      exact PySem.W.any_tuple_data (I.ok.hd hc) hl hr hp hf fun h' tk hk => ⟨.bl _, H, I.kept hk, rfl, q⟩
theorem cr_allD {X : Cx} (hc : X.calm = true) : CallR X (.builtin "all") (rAllD X.K) := by
  intro pins s σ H vs us Q I r h
  obtain ⟨x, ds, rfl, hd, hp, hf, q⟩ := h
  obtain ⟨u, rfl, ru⟩ := Vals.one r
  rcases hd with hd | hd
  · cases hd with
    | lst hs ha =>
      obtain ⟨its, rv, hl, hz⟩ := I.list hs
      cases ru
      obtain ⟨as, hr⟩ := Dp.readsAll I ds _ its ha rv
      exact PySem.W.all_list_data (I.ok.hd hc) hl.isList hr hp hf fun h' tk hk => ⟨.bl _, H, I.kept hk, rfl, q⟩
  · cases hd with
    | tup hs ha =>
      obtain ⟨its, rv, hl, hz⟩ := I.tuple hs
      cases ru
      obtain ⟨as, hr⟩ := Dp.readsAll I ds _ its ha rv
      exact PySem.W.all_tuple_data (I.ok.hd hc) hl hr hp hf fun h' tk hk => ⟨.bl _, H, I.kept hk, rfl, q⟩
theorem Rep.sq_dp {v : V} {d : D} {F : List Addr} {ps : List P} (h : Rep K H v d F) (e : seqOf d = some ps) : Dp K H v (.list (toPys ps)) ∨ Dp K H v (.tuple (toPys ps)) := by
  have hd := h.dp
  cases d with
  | lst qs => cases e; exact .inl (by simpa [rd, toPy] using hd)
  | imm p =>
    cases p with
    | tup qs => cases e; exact .inr (by simpa [rd, toPy] using hd)
    | lst qs => cases e; exact .inl (by simpa [rd, toPy] using hd)
    | _ => cases e
theorem fits_all {ps : List P} (h : ps.all fitP = true) : ∀ d ∈ toPys ps, d.fits63 := fun d hd => by
  rw [toPys_map] at hd
  obtain ⟨p, hp, rfl⟩ := List.mem_map.mp hd
  exact fits_py (List.all_eq_true.mp h p hp)
theorem ok_all : OpOk K (rAllD K) (opSem .all) := by
  intro vs ds H Q d pk h hQ
  match ds, pk, h with
  | [x], pk, h =>
    obtain ⟨v, F, rfl, r1⟩ := pk.one
    obtain ⟨ps, h1, h2⟩ := bind_some (show opAll x = some d from h)
    split at h2
    · rename_i hf
      obtain rfl := ib_inv h2
      refine ⟨v, toPys ps, rfl, r1.sq_dp h1, plains_py ps, fits_all hf, ?_⟩
      rw [all_truthy]
      exact fin_imm (r := True) hQ (.bl _)
    · cases h2
theorem ok_any : OpOk K (rAnyD K) (opSem .any) := by
  intro vs ds H Q d pk h hQ
  match ds, pk, h with
  | [x], pk, h =>
    obtain ⟨v, F, rfl, r1⟩ := pk.one
    obtain ⟨ps, h1, h2⟩ := bind_some (show opAny x = some d from h)
    split at h2
    · rename_i hf
      obtain rfl := ib_inv h2
      refine ⟨v, toPys ps, rfl, r1.sq_dp h1, plains_py ps, fits_all hf, ?_⟩
      rw [any_truthy]
      exact fin_imm (r := True) hQ (.bl _)
    · cases h2
theorem join_sOf (s : List Nat) : ∀ ns : List (List Nat), Str.join (sOf s) (ns.map sOf) = sOf (joinL s ns)
  | [] => rfl
  | [x] => rfl
  | x :: y :: r => by
    show sOf x ++ sOf s ++ Str.join (sOf s) ((y :: r).map sOf) = sOf (x ++ s ++ joinL s (y :: r))
    rw [join_sOf s (y :: r), sOf_app, sOf_app]
theorem chrOk_join {s : List Nat} (hs : chrOk s = true) : ∀ {ns : List (List Nat)}, (∀ n ∈ ns, chrOk n = true) → chrOk (joinL s ns) = true
  | [], _ => rfl
  | [x], h => h x List.mem_cons_self
  | x :: y :: r, h => chrOk_app (chrOk_app (h x List.mem_cons_self) hs) (chrOk_join hs fun n z => h n (List.mem_cons_of_mem _ z))
theorem PReps.strs_ok : ∀ {ns : List (List Nat)} {vs : List V}, PReps K H vs (ns.map P.str) → ∀ n ∈ ns, chrOk n = true
  | [], _, _, n, z => nomatch z
  | m :: ns, _, h, n, z => by
    cases h with
    | cons a b =>
      cases a with
      | str _ c =>
        rcases List.mem_cons.mp z with rfl | z
        · exact c
        · exact PReps.strs_ok b n z
def rJoinD (K : PySem.W.Frag) : V → List V → Hp → VK → Prop := fun x xs H Q => ∃ a p, ∃ ys : List Str, x = .str a ∧ xs = [.ref p] ∧ (SqL K H p (ys.map V.str) ∨ SqT K H p (ys.map V.str)) ∧
    (ys.map (·.length)).sum + ys.length * a.length ≤ 16777216 ∧ Q (.str (Txt.join a ys)) H
def m2n (r : V → List V → Hp → VK → Prop) : List V → Hp → VK → Prop := fun vs H Q => ∃ x xs, vs = x :: xs ∧ r x xs H Q
theorem ok_join : OpOk K (m2n (rJoinD K)) (opSem .join) := by
  intro vs ds H Q d pk h hQ
  match ds, pk, h with
  | [x, y], pk, h =>
    obtain ⟨v, u, F, G, rfl, r1, r2⟩ := pk.two
    have h : opJoin x y = some d := h
    unfold opJoin at h
    split at h
    · split at h
      · cases h
      · rename_i hns
        obtain ⟨ps, h1, h2⟩ := bind_some h
        obtain ⟨ns, h3, h4⟩ := bind_some h2
        split at h4
        · rename_i hl
          cases h4
          obtain rfl := allStrs_eq h3
          obtain ⟨rfl, c1⟩ := r1.str_of
          obtain ⟨a, xs, rfl, s1, q1⟩ := r2.seq_of h1 fun s e => hns s e
          have ok := q1.strs_ok
          obtain rfl := q1.of_strs
          refine ⟨_, _, rfl, _, a, ns.map sOf, rfl, rfl, s1, ?_, ?_⟩
          · rw [List.map_map, List.length_map, sOf_len]
            have e : (List.map ((fun x => x.length) ∘ sOf) ns) = ns.map List.length := List.map_congr_left fun n _ => sOf_len n
            rw [e]
            exact hl
          · rw [show Txt.join (sOf _) (List.map sOf _) = Str.join (sOf _) (List.map sOf _) from PySem.StrLaws.glued_eq_join _ _, join_sOf]
            exact fin_imm (r := True) hQ (.str _ (chrOk_join c1 ok))
        · cases h4
    · cases h
theorem idxOf_spec (p : P) : ∀ {ps : List P} {j : Nat}, idxOf p ps = some j → (∃ z, (toPys ps)[j]? = some z ∧ PyData.eqv z (toPy p) = true) ∧ ∀ (m : Nat) (z' : PyData), m < j → (toPys ps)[m]? = some z' → PyData.eqv z' (toPy p) = false
  | [], _, h => by cases h
  | q :: ps, j, h => by
    unfold idxOf at h
    by_cases c : peq q p = true
    · rw [if_pos c] at h
      cases h
      exact ⟨⟨toPy q, rfl, by rw [eqv_py]; exact c⟩, fun m z' hm => absurd hm (Nat.not_lt_zero m)⟩
    · rw [if_neg c] at h
      cases e : idxOf p ps with
      | none => rw [e] at h; cases h
      | some i =>
        rw [e] at h
        cases h
        obtain ⟨⟨z, h1, h2⟩, h3⟩ := idxOf_spec p e
        refine ⟨⟨z, h1, h2⟩, fun m z' hm hz => ?_⟩
        cases m with
        | zero =>
          have e1 : toPy q = z' := Option.some.inj hz
          rw [← e1, eqv_py]
          exact Bool.eq_false_iff.mpr c
        | succ m => exact h3 m z' (Nat.lt_of_succ_lt_succ hm) hz
def rIndexP (K : PySem.W.Frag) : V → List V → Hp → VK → Prop := fun x xs H Q => ∃ (a : Addr) (y : V) (d : PyData) (ds : List PyData) (j : Nat) (z : PyData), x = V.ref a ∧ xs = [y] ∧ Dp K H (V.ref a) (.list ds) ∧ Dp K H y d ∧
  PyData.canLayAll0 ds = true ∧ d.canLay0 = true ∧ min (PyData.depthAll ds) d.depth ≤ 50 ∧ ds[j]? = some z ∧ PyData.eqv z d = true ∧ (∀ (m : Nat) (z' : PyData), m < j → ds[m]? = some z' → PyData.eqv z' d = false) ∧ Q (.int (j : Nat)) H
end
end Sw
set_option maxHeartbeats 1000000
/-! Sw, part 8: index, isinstance, slices, changes of lists. -/
namespace Sw
open PySem PySem.Spec PyProof.Rows L2
section
variable {K : PySem.W.Frag} {H : Hp}
theorem lay_plain {d : PyData} (h : d.canLay0 = true) : d.plain = true := PyData.plain_of_canLay0 d h
theorem layAll_plain {ds : List PyData} (h : PyData.canLayAll0 ds = true) : PyData.plainAll ds = true := by
  have := lay_plain (d := .list ds) (by simpa [PyData.canLay0] using h)
  simpa [PyData.plain] using this
/-! ### x.index(y) -/
theorem mt_indexP {X : Cx} (hu : X.A.units + 64 < cLine) : MtR X "list.index" (rIndexP X.K) := by
  intro pins s σ H x xs v us Q I rx rxs h
  obtain ⟨a, y, d, ds, j, z, rfl, rfl, hl, hy, hxs, sd, hm, hz, hzj, hno, q⟩ := h
  cases rx
  cases rxs with
  | cons ry rt =>
    rename_i uy ut
    cases rt
    obtain ⟨bs, r1⟩ := Dp.reads I d y uy hy ry
    have hroom : X.A.units + 1 + min (PyData.depthAll ds) d.depth < cLine := by omega
    cases hl with
    | lst hs ha =>
      obtain ⟨its, rv, ⟨⟨cls, dd, data, sls⟩, n, ho, hc, hdn, hdt⟩, hlen⟩ := I.list hs
      simp only at hc hdt
      subst hc hdt
      obtain ⟨as, h4⟩ := Dp.readsAll I ds _ its ha rv
      have hn : its.length = ds.length := SeqAt.ReadsAll.length ds its as h4
      have hmap : its.map (SeqAt.readOf s.heap) = ds := SeqAt.readsAll_map ds its as hxs h4
      have hvl := rv.length
      have hsl := sizeLine_is
      obtain ⟨hjd, _⟩ := List.getElem?_eq_some_iff.mp hz
      have hjl : j < its.length := by omega
      have hj : j < its.toArray.size := by simpa using hjl
      have at_ : ∀ (m : Nat) (hm : m < its.toArray.size) (z' : PyData), ds[m]? = some z' → SeqAt.readOf s.heap its.toArray[m] = z' := by
        intro m hm z' hz'
        have hml : m < its.length := by simpa using hm
        rw [← hmap, List.getElem?_map, List.getElem?_eq_getElem hml] at hz'
        have e1 : SeqAt.readOf s.heap its[m] = z' := Option.some.inj (show some (SeqAt.readOf s.heap its[m]) = some z' from hz')
        simpa using e1
      refine call_meets PySem.F.slot_list_index ⟨_, ho, rfl⟩ PySem.F.entry_list_index (PySem.F.args_list_index_2 _ _)
        (SeqAt.list_indexAt a its.toArray n dd sls uy (fun u => PyData.eqv (SeqAt.readOf s.heap u) d) j hj (by omega) ?_ ?_) ⟨ho, SeqAt.items_eqAt (vs := its.toArray) (show ReadsAll s.heap its.toArray.toList ds as from h4) r1 hxs sd hroom, ?_⟩
      · show PyData.eqv (SeqAt.readOf s.heap its.toArray[j]) d = true
        rw [at_ j hj z hz]
        exact hzj
      · intro m hm hmj
        have hmd : m < ds.length := by omega
        have hz' : ds[m]? = some ds[m] := List.getElem?_eq_getElem hmd
        show PyData.eqv (SeqAt.readOf s.heap its.toArray[m]) d = false
        rw [at_ m hm _ hz']
        exact hno m _ hmj hz'
      · exact ⟨.int (j : Nat), H, I.tok _, ⟨_, rfl⟩, q⟩
theorem ok_index : OpOk K (m2n (rIndexP K)) (opSem .index) := by
  intro vs ds H Q d pk h hQ
  match ds, pk, h with
  | [x, y], pk, h =>
    obtain ⟨v, u, F, G, rfl, r1, r2⟩ := pk.two
    have h : opIndex x y = some d := h
    unfold opIndex at h
    split at h
    all_goals first
      | (cases h; done)
      | (split at h
         · rename_i c
           obtain ⟨k, h1, h2⟩ := bind_some h
           obtain rfl := ii_inv h2
           obtain ⟨q2, _⟩ := r2.imm_of
           obtain ⟨⟨z, g1, g2⟩, g3⟩ := idxOf_spec _ h1
           have hd := r1.dp
           have hl := r1.lay
           obtain ⟨a, xs, rfl, s1, q1⟩ := r1.list_of rfl
           exact ⟨_, _, rfl, a, u, toPy _, toPys _, k, z, rfl, rfl, hd, q2.dp, by simpa [rd, toPy, PyData.canLay0] using hl, q2.lay, by rw [depth_py, depths_py]; exact c, g1, g2, g3, fin_imm (r := True) hQ (.int _)⟩
         · cases h)
/-! ### isinstance -/
def tyName : Ty → String
  | .int => "int"
  | .bool => "bool"
  | .str => "str"
  | .tuple => "tuple"
  | .list => "list"
def isTyD (d : PyData) : Ty → Bool
  | .int => d.isInt
  | .bool => d.isBool
  | .str => d.isStr
  | .tuple => d.isTuple
  | .list => d.isList
theorem isTy_py (p : P) (t : Ty) : isTyD (toPy p) t = isTy p t := by
  cases t <;> cases p <;> simp [isTyD, isTy, toPy, PyData.isInt, PyData.isBool, PyData.isStr, PyData.isTuple, PyData.isList]
def tyOfD : PyData → String
  | .none => "NoneType"
  | .bool _ => "bool"
  | .int _ => "int"
  | .str _ => "str"
  | .list _ => "list"
  | .tuple _ => "tuple"
  | .dict _ => "dict"
theorem kit_tab (t : Ty) : kitB "NoneType" (tyName t) = some false ∧ kitB "bool" (tyName t) = some (isTyD (.bool true) t) ∧ kitB "int" (tyName t) = some (isTyD (.int 0) t) ∧ kitB "str" (tyName t) = some (isTyD (.str Str.empty) t) ∧
    kitB "list" (tyName t) = some (isTyD (.list []) t) ∧ kitB "tuple" (tyName t) = some (isTyD (.tuple []) t) := by
  cases t <;> decide +kernel
theorem kit_d {K : PySem.W.Frag} {H : Hp} {v : V} {d : PyData} (h : Dp K H v d) (t : Ty) : PySem.W.kitOne K (.type (tyOfD d)) (.type (tyName t)) = some (isTyD d t) := by
  have e := kit_tab t
  cases h with
  | non => exact kit_ty (e.1.trans (by cases t <;> rfl))
  | bl b => exact kit_ty (e.2.1.trans (by cases t <;> rfl))
  | int i => exact kit_ty (e.2.2.1.trans (by cases t <;> rfl))
  | str x => exact kit_ty (e.2.2.2.1.trans (by cases t <;> rfl))
  | lst _ _ => exact kit_ty (e.2.2.2.2.1.trans (by cases t <;> rfl))
  | tup _ _ => exact kit_ty (e.2.2.2.2.2.trans (by cases t <;> rfl))
theorem dp_ty {K : PySem.W.Frag} {H : Hp} {v : V} {d : PyData} (h : Dp K H v d) : TyX K H v (.type (tyOfD d)) := by
  cases h with
  | non => exact .base .non
  | bl b => exact .base (.bl b)
  | int i => exact .base (.int i)
  | str x => exact .base (.str x)
  | lst s _ =>
    rcases s with (s | ⟨o, s⟩) | ⟨o, its, n, h1, h2, _⟩
    · exact .base (.lst s)
    · exact .base (.frz s)
    · exact .kList h1 h2
  | tup s _ =>
    rcases s with (s | ⟨o, s⟩) | ⟨o, its, n, h1, h2, _⟩
    · exact .base (.tup s)
    · exact .fTuple s
    · exact .kTuple h1 h2
theorem kitAny_d {K : PySem.W.Frag} {H : Hp} {v : V} {d : PyData} (h : Dp K H v d) : ∀ ts : List Ty, PySem.W.kitAny K (.type (tyOfD d)) (ts.map fun t => .type (tyName t)) = some (ts.any (isTyD d))
  | [] => rfl
  | t :: ts => kitAny_cons (b := isTyD d t) (kit_d h t) (fun e => by rw [kitAny_d h ts, List.any_cons, e] <;> rfl) fun e => by rw [List.any_cons, e] <;> rfl
theorem isi_one {K : PySem.W.Frag} {H : Hp} {v : V} {x : D} {F : List Addr} {t : Ty} {Q : VK} (r : Rep K H v x F) (q : Q (.bl (isTy (rd x) t)) H) : rIsi K [v, .ty (tyName t)] H Q :=
  ⟨v, .ty (tyName t), _, _, _, rfl, .ty _, dp_ty r.dp, kit_d r.dp t, by rw [isTy_py]; exact q⟩
theorem pair_tys : ∀ ts : List Ty, Paired ClsV (ts.map fun t => V.ty (tyName t)) (ts.map fun t => Value.type (tyName t))
  | [] => .nil
  | t :: ts => .cons (.ty _) (pair_tys ts)
theorem isi_many {K : PySem.W.Frag} {H : Hp} {v : V} {x : D} {F : List Addr} {ts : List Ty} {tp : Addr} {Q : VK} (r : Rep K H v x F) (h : H tp = some (.tup (ts.map fun t => .ty (tyName t)))) (q : Q (.bl (ts.any (isTy (rd x)))) H) : rIsiT K [v, .ref tp] H Q := by
  refine ⟨v, tp, _, _, ts.map fun t => .type (tyName t), _, rfl, h, ?_, dp_ty r.dp, kitAny_d r.dp ts, ?_⟩
  · exact pair_tys ts
  · have e : ts.any (isTyD (toPy (rd x))) = ts.any (isTy (rd x)) := by
      congr 1
      funext t
      exact isTy_py _ _
    rw [e]
    exact q
end
end Sw
set_option maxHeartbeats 1000000
/-! Sw, part 9: slices, truth, changes. -/
namespace Sw
open PySem PySem.Spec PyProof.Rows L2
section
variable {K : PySem.W.Frag} {H : Hp}
theorem sIxP_eq (n d : Nat) (o : Option Int) : sIxP n d o = HT.sIx n d o := by cases o <;> rfl
theorem cutV_rep {vs : List V} {ps : List P} (h : PReps K H vs ps) (lo hi : Option Int) : PReps K H (cutV vs lo hi) (cutP ps lo hi) := by
  unfold cutV cutP
  rw [sIxP_eq, sIxP_eq, h.length]
  exact (h.drop _).take _
theorem cutS_eq (s : List Nat) (lo hi : Option Int) : cutS (sOf s) lo hi = sOf (cutP s lo hi) := by
  unfold cutS cutP
  rw [sIxP_eq, sIxP_eq, sOf_cps, sOf_len] <;> rfl
theorem cutP_mem {α : Type} {xs : List α} {lo hi : Option Int} : ∀ x ∈ cutP xs lo hi, x ∈ xs := fun x h => List.mem_of_mem_drop (List.mem_of_mem_take h)
def rSlcD (K : PySem.W.Frag) : V → Option Int → Option Int → Hp → VK → Prop := fun x lo hi H Q => rSlL K x lo hi H Q ∨ rSlA K x lo hi H Q ∨ rSlS x lo hi H Q
theorem sl_D {X : Cx} : SlR X (rSlcD X.K) := sl_list.or (sl_tupA.or sl_str)
theorem slc_ok {v : V} {x d : D} {F : List Addr} {lo hi : Option Int} {Q : VK} (r : Rep K H v x F) (h : slcSem x lo hi = some d)
    (hQ : ∀ v H' F, Same H H' → Rep K H' v d F → (∀ a ∈ F, H a = none) → F.Nodup → Q v H') : rSlcD K v lo hi H Q := by
  unfold slcSem at h
  split at h
  · split at h
    · rename_i c
      cases h
      obtain ⟨rfl, c1⟩ := r.str_of
      refine .inr (.inr ⟨_, rfl, by rw [sOf_len]; exact le_line c, ?_⟩)
      rw [cutS_eq]
      exact fin_imm (r := True) hQ (.str _ (chrOk_sub c1 cutP_mem))
    · cases h
  · cases h
    obtain ⟨a, xs, rfl, s1, q1⟩ := r.tup_of
    refine .inr (.inl ⟨a, xs, rfl, s1, fun e => ?_, fun _ p hp => fin_tup hQ hp (cutV_rep q1 lo hi)⟩)
    rename_i ps
    have e2 : cutP ps lo hi = ps := by
      unfold cutP
      rw [sIxP_eq, sIxP_eq, ← q1.length, e.1, e.2, q1.length]
      simp
    rw [e2] at hQ
    exact fin_imm (r := True) hQ (.tup s1 q1)
  · cases h
    obtain ⟨a, xs, rfl, s1, q1⟩ := r.flst_of
    exact .inl ⟨a, xs, rfl, s1.sql, fun p hp => fin_lst hQ hp (cutV_rep q1 lo hi)⟩
  · cases h
    obtain ⟨a, xs, rfl, s1, q1, _⟩ := r.lst_of
    exact .inl ⟨a, xs, rfl, SqL.of s1, fun p hp => fin_lst hQ hp (cutV_rep q1 lo hi)⟩
  · cases h
/-! ### x[::-1] -/
section
variable {prog : Program} {w : World} {A : Around} {E : Value → Shared → Prop} {s : Shared}
theorem sliceApplied_rev {sl : Addr} {vs : Value} {n : Nat} {Q : Int × Int × Nat → Shared → Prop} (hs : s.heap.IsSliceOf sl .none .none vs) (pv : IsPart vs (some (-1)))
    (h : Q ((n : Int) - 1, -1, n) s) : wpAny (model prog w) A (Builtin.Slice.sliceApplied (.ref sl) (pure (n : Int))) Q E s := by
  obtain ⟨os, hos, hcs, hds⟩ := id hs
  unfold Builtin.Slice.sliceApplied Builtin.Slice.sliceFields
  refine wpAny_bind (wpAny_bind (wpAny_field hos hds (x := .none) rfl (wpAny_bind (wpAny_field hos hds (x := .none) rfl (wpAny_bind (wpAny_field hos hds (x := vs) rfl (wpAny_pure ?_)))))))
  refine wpAny_bind (HT.slicePart_ pv ?_)
  show wpAny _ _ (if ((-1 : Int) == 0) = true then _ else _) _ _ s
  rw [if_neg (by decide)]
  refine wpAny_bind (slicePart_none (wpAny_bind (slicePart_none (wpAny_bind (wpAny_pure ?_)))))
  have e : Builtin.Slice.slicePlaces ((n : Int) - 1) (-1) (-1) = n := by
    unfold Builtin.Slice.slicePlaces
    rw [if_neg (by decide)]
    by_cases c : (n : Int) - 1 > -1
    · rw [if_pos c, show (- -1 : Int) = 1 by decide, Int.ediv_one]; omega
    · rw [if_neg c]; omega
  show wpAny _ _ (pure ((n : Int) - 1, (-1 : Int), Builtin.Slice.slicePlaces ((n : Int) - 1) (-1) (-1))) _ _ s
  rw [e]
  exact wpAny_pure h
theorem fm_congr {α β : Type} {f g : α → Option β} : ∀ {l : List α}, (∀ x ∈ l, f x = g x) → l.filterMap f = l.filterMap g
  | [], _ => rfl
  | x :: l, h => by
    rw [List.filterMap_cons, List.filterMap_cons, h x List.mem_cons_self, fm_congr fun y z => h y (List.mem_cons_of_mem _ z)]
theorem pick_rev (xs : Array Value) : ((List.range xs.size).filterMap fun (m : Nat) => xs[((xs.size : Int) - 1 + (m : Int) * (-1)).toNat]?).toArray = xs.toList.reverse.toArray := by
  have e := PySem.W.krv_all xs
  have e2 := PySem.W.krv_range xs.size
  congr 1
  rw [← e, ← List.filterMap_reverse, ← e2, List.filterMap_map]
  apply fm_congr
  intro m hm
  have := List.mem_range.mp hm
  show xs[_]? = xs[xs.size - 1 - m]?
  congr 1
  omega
theorem getItem_tuple_rev {t sl : Addr} {items : Array Value} {vs : Value} {Q : Value → Shared → Prop} (ht : IsTup s.heap t items) (hs : s.heap.IsSliceOf sl .none .none vs) (pv : IsPart vs (some (-1)))
    (h : Q (.ref s.heap.objs.size) { s with heap := s.heap.push { cls := .type "tuple", data := .seq items.toList.reverse.toArray } })
    (hsz : items.size ≤ sizeLine) : wpAny (model prog w) A (getItem (.ref t) (.ref sl)) Q E s := by
  have htake : sizeOk (.seq items.toList.reverse.toArray) := by
    show items.toList.reverse.toArray.size ≤ sizeLine
    rw [List.size_toArray, List.length_reverse, Array.length_toList]
    exact hsz
  obtain ⟨os, hos, hcs, hds⟩ := id hs
  have hTs : s.TypeIs (.ref sl) "slice" := ⟨os, hos, hcs⟩
  unfold getItem
  try with_reducible refine wpAny_holding ?_
  first | refine wpAny_bind (wpAny_pure ?_) | skip
  refine wpAny_bind (wpAny_sequenceKey ht.typeIs (by decide) ?_)
  refine wpAny_bind (wpAny_callSpecial?_slot (name := Str.ofString "__getitem__") ht.typeIs PyProof.Rows.slot_tuple_getitem
    (wpAny_call_entry PyProof.Rows.slot_tuple_getitem ht.typeIs entry_tuple_getitem ?_ (args_tuple_getitem _ _)))
  show wpAny _ _ (Builtin.Tuple.tupleItemsOf (.ref t) >>= _) _ _ s
  refine wpAny_bind (tupleItemsOf_ ht ?_)
  refine wpAny_bind (wpAny_typeOf hTs ?_)
  rw [if_pos (by decide)]
  refine wpAny_bind (sliceApplied_rev hs pv ?_)
  show wpAny _ _ (if (((items.size : Int) - 1) == 0 && (-1 : Int) == 1 && items.size == items.size) = true then _ else _) _ _ s
  rw [if_neg (by simp), pick_rev]
  first
    | exact wpAny_bind (m := Builtin.Tuple.tupleExact _) (wpAny_newObj_type (wpAny_pure ⟨_, rfl, wpAny_pure h⟩) htake)
    | exact wpAny_bind (m := Builtin.Tuple.tupleExact _) (wpAny_newObj_type (wpAny_bind (wpAny_pure (wpAny_pure ⟨_, rfl, wpAny_pure h⟩))) htake)
    | exact wpAny_bind (wpAny_bind (m := Builtin.Tuple.tupleExact _) (wpAny_newObj_type (wpAny_pure (wpAny_pure ⟨_, rfl, wpAny_pure h⟩)) htake))
    | exact wpAny_bind (wpAny_bind (m := Builtin.Tuple.tupleExact _) (wpAny_newObj_type (wpAny_pure ⟨_, rfl, wpAny_pure h⟩) htake))
end
def rRevD (K : PySem.W.Frag) : V → Hp → VK → Prop := fun x H Q => (∃ a xs, x = .ref a ∧ SqL K H a xs ∧ ∀ p, H p = none → Q (.ref p) (upd H p (.lst xs.reverse))) ∨
  (∃ a xs, x = .ref a ∧ SqT K H a xs ∧ ∀ p, H p = none → Q (.ref p) (upd H p (.tup xs.reverse))) ∨ ∃ z : Str, x = .str z ∧ z.length ≤ sizeLine ∧ Q (.str ⟨z.cps.toList.reverse.toArray⟩) H
theorem pick_revS (z : Str) : ((Builtin.Str.strSliceIndices none none (-1) z.length).filterMap (z.cps[·]?)).toArray = z.cps.toList.reverse.toArray := by
  have e : Builtin.Str.strSliceIndices none none (-1) z.length = (List.range z.length).map fun k => z.length - 1 - k := by
    rw [← PySem.W.krv_sliceRange]
    rfl
  rw [e]
  have e1 := PySem.W.krv_range z.length
  have e2 := PySem.W.krv_all z.cps
  rw [e1, List.filterMap_reverse]
  show ((List.range z.cps.size).filterMap (z.cps[·]?)).reverse.toArray = _
  rw [e2]
/-- st: an expression that is -1 -/
theorem pe_revD {X : Cx} {e st : Expr} {te : TE} {tst : TO} {p3 pos : Pos} (he : PE X e te) (hst : PO X (some st) tst) (h1 : ∀ σ H (Q : Option Int → Hp → Prop), Q (some (-1)) H → tst σ H Q) :
    PE X (.Subscript e (.Slice none none (some st) p3) pos) (tUn (rRevD X.K) te) := by
  refine ⟨fun pins s σ H Q I h => ?_⟩
  refine Subscript_ (thn (he.run pins s σ H _ I h) fun v s1 ⟨x, H1, I1, r1, q1⟩ => ?_)
  refine wpAny_Slice (thn (po_none.run pins s1 σ H1 (fun o H2 => o = none ∧ H2 = H1) I1 ⟨rfl, rfl⟩) fun vl s2 ⟨l, H2, I2, pl, el, e2⟩ => ?_)
  subst el e2
  refine thn (po_none.run pins s2 σ H2 (fun o H3 => o = none ∧ H3 = H2) I2 ⟨rfl, rfl⟩) fun vu s3 ⟨u, H3, I3, pu, eu, e3⟩ => ?_
  subst eu e3
  refine thn (hst.run pins s3 σ H3 (fun o H4 => o = some (-1) ∧ H4 = H3) I3 (h1 _ _ _ ⟨rfl, rfl⟩)) fun vs s4 ⟨o, H4, I4, ps, eo, e4⟩ => ?_
  subst eo e4
  have I5 : Inv X pins σ H4 { s4 with heap := s4.heap.push { cls := .type "slice", data := .fields #[vl, vu, vs] } } := I4.kept (t' := s4.toks) fun b ob q => Heap.get?_push_of_some _ q
  have vl0 : vl = .none := by cases pl; rfl
  have vu0 : vu = .none := by cases pu; rfl
  subst vl0 vu0
  show wpAny (model X.prog X.w) X.A (subscriptTail e (.Slice none none (some st) p3) v (.ref s4.heap.objs.size)) (EP X pins σ Q) X.xe { s4 with heap := s4.heap.push { cls := .type "slice", data := .fields #[.none, .none, vs] } }
  rcases q1 with ⟨a, xs, ex, hx, q⟩ | ⟨a, xs, ex, hx, q⟩ | ⟨z, ex, hz, q⟩
  · subst ex
    cases r1
    obtain ⟨its, r, ht, hz⟩ := I5.list hx
    have hlen := r.length
    refine tail_any (ops := [.ref a, .ref s4.heap.objs.size]) ht.isList.typeIs (PySem.slot_list_getitem.lookup) ?_ (by with_unfolding_all rfl)
    refine wpAny_getItem_list_slice ht.isList (Heap.IsSliceOf.new _ .none .none vs) pl pu ps (by decide) ?_ (by rw [List.size_toArray]; omega)
    rw [PySem.W.krv_pick]
    refine ⟨.ref _, _, I5.laid (t' := s4.toks) (o := .lst xs.reverse) (fun b ob q => Heap.get?_push_of_some _ q) (Nat.le_refl _) ?_, rfl, q _ (I5.hok.fresh (Nat.le_refl _))⟩
    exact ⟨by rw [List.length_reverse]; exact hz, _, 0, r.reverse, Heap.get?_push_size _ rfl⟩
  · subst ex
    cases r1
    obtain ⟨its, r, ht, hz⟩ := I5.tuple hx
    have hlen := r.length
    refine tail_any (ops := [.ref a, .ref s4.heap.objs.size]) ht.typeIs (PyProof.Rows.slot_tuple_getitem.lookup) ?_ (by with_unfolding_all rfl)
    refine getItem_tuple_rev ht (Heap.IsSliceOf.new _ .none .none vs) ps ?_ (by rw [List.size_toArray]; omega)
    refine ⟨.ref _, _, I5.laid (t' := s4.toks) (o := .tup xs.reverse) (fun b ob q => Heap.get?_push_of_some _ q) (Nat.le_refl _) ?_, rfl, q _ (I5.hok.fresh (Nat.le_refl _))⟩
    exact ⟨by rw [List.length_reverse]; exact hz, its.reverse, r.reverse, _, Heap.get?_push_size _ rfl, rfl, 0, by simp⟩
  · subst ex
    obtain ⟨t, rfl⟩ := r1
    obtain ⟨st', rfl, e7⟩ := IsPart.raw ps
    refine tail_any (ops := [.str z t, .ref s4.heap.objs.size]) (typeIs_str _ _ _) (F.slot_str_getitem.lookup) ?_ (by with_unfolding_all rfl)
    refine wpAny_getItem_str_slice (l := none) (u := none) (st := st') ⟨_, Heap.get?_push_size _ rfl, rfl, rfl⟩ (by rw [e7] <;> rfl) ?_
    have e8 : sliceMade z t none none st' = .str ⟨((Builtin.Str.strSliceIndices none none (-1) z.length).filterMap (z.cps[·]?)).toArray⟩ := by
      unfold sliceMade slicePicked
      rw [e7] <;> rfl
    rw [e8, pick_revS]
    exact ⟨by show Array.size _ ≤ _; rw [List.size_toArray, List.length_reverse]; exact hz, .str _, _, I5.tok _, ⟨_, rfl⟩, q⟩
theorem ok_rev : OpOk K (r1n (rRevD K)) (opSem .rev) := by
  intro vs ds H Q d pk h hQ
  match ds, pk, h with
  | [x], pk, h =>
    obtain ⟨v, F, rfl, r1⟩ := pk.one
    have h : opRev x = some d := h
    refine ⟨v, rfl, ?_⟩
    unfold opRev at h
    split at h
    · split at h
      · rename_i c
        cases h
        obtain ⟨rfl, c1⟩ := r1.str_of
        refine .inr (.inr ⟨_, rfl, by rw [sOf_len]; exact le_line c, ?_⟩)
        rw [sOf_cps]
        exact fin_imm (r := True) hQ (.str _ (chrOk_sub c1 fun x z => List.mem_reverse.mp z))
      · cases h
    · cases h
      obtain ⟨a, xs, rfl, s1, q1⟩ := r1.tup_of
      exact .inr (.inl ⟨a, xs, rfl, s1, fun p hp => fin_tup hQ hp q1.reverse⟩)
    · cases h
      obtain ⟨a, xs, rfl, s1, q1⟩ := r1.flst_of
      exact .inl ⟨a, xs, rfl, s1.sql, fun p hp => fin_lst hQ hp q1.reverse⟩
    · cases h
      obtain ⟨a, xs, rfl, s1, q1, _⟩ := r1.lst_of
      exact .inl ⟨a, xs, rfl, SqL.of s1, fun p hp => fin_lst hQ hp q1.reverse⟩
    · cases h
/-! ### truth -/
theorem truth_ok {v : V} {x : D} {F : List Addr} {b : Bool} (r : Rep K H v x F) (h : truth x = some b) : TruV K v H b := by
  have ne0 : ∀ {vs : List V} {ps : List P}, PReps K H vs ps → vs.isEmpty = ps.isEmpty := fun {vs ps} r => by
    cases r <;> rfl
  have key : ∀ s : List Nat, (!s.isEmpty) = (((s.length : Nat) : Int) != 0) := fun s => by
    cases s with
    | nil => rfl
    | cons a b =>
      have h : ((((a :: b).length : Nat) : Int) != 0) = true := by
        rw [bne_iff_ne, List.length_cons]
        omega
      rw [h]
      rfl
  unfold truth at h
  split at h
  · cases h; obtain ⟨h, _⟩ := r.imm_of; cases h; rfl
  · cases h; obtain rfl := r.bl_of; rfl
  · cases h; obtain rfl := r.int_of; rfl
  · split at h
    · rename_i c
      cases h
      obtain ⟨rfl, c1⟩ := r.str_of
      refine ⟨by rw [sOf_len]; exact le_line c, ?_⟩
      rw [sOf_len]
      exact key _
    · cases h
  · cases h
    obtain ⟨a, xs, rfl, s1, q1⟩ := r.tup_of
    exact .inr (.inl ⟨xs, s1, by rw [ne0 q1]⟩)
  · cases h
    obtain ⟨a, xs, rfl, s1, q1⟩ := r.flst_of
    exact .inl ⟨xs, s1.sql, by rw [ne0 q1]⟩
  · cases h
    obtain ⟨a, xs, rfl, s1, q1, _⟩ := r.lst_of
    exact .inl ⟨xs, SqL.of s1, by rw [ne0 q1]⟩
/-! ### methods that change a list: by values -/
def mmName : MOp → Str × String
  | .append => ("append", "list.append")
  | .extend => ("extend", "list.extend")
  | .pop => ("pop", "list.pop")
  | .popAt => ("pop", "list.pop")
  | .remove => ("remove", "list.remove")
def rRemD (K : PySem.W.Frag) : V → List V → Hp → VK → Prop := fun x xs H Q => ∃ (a : Addr) (ys : List V) (y : V) (d : PyData) (ds : List PyData) (j : Nat), x = V.ref a ∧ xs = [y] ∧ H a = some (.lst ys) ∧ DpAll K H ys ds ∧ Dp K H y d ∧
  PyData.canLayAll0 ds = true ∧ d.canLay0 = true ∧ min (PyData.depthAll ds) d.depth ≤ 50 ∧ SeqAt.dataPlace ds d = some j ∧ Q .non (upd H a (.lst (ys.eraseIdx j)))
theorem mt_remD {X : Cx} (hu : X.A.units + 64 < cLine) : MtM X "list.remove" (rRemD X.K) := by
  intro pins s σ H x xs v us Q I rx rxs h
  obtain ⟨a, ys, y, d, ds, j, rfl, rfl, hH, hD, hy, hxs, sd, hm, hp, q⟩ := h
  cases rx
  obtain ⟨u, rfl, ru⟩ := rxs.one
  obtain ⟨bs, r1⟩ := Dp.reads I d y u hy ru
  obtain ⟨z, its, n, r, hl, e⟩ := I.lstM hH
  obtain ⟨as, h4⟩ := Dp.readsAll I ds _ its hD r
  refine SeqAt.remove_list_data (vs := its.toArray) (j := j) ⟨_, e, rfl, _, rfl⟩ (by simpa using h4) r1 (layAll_plain hxs) (lay_plain sd) (by omega) hp (by rw [List.size_toArray]; omega) ?_
  refine ⟨.non, _, I.lset (its' := its.eraseIdx j) (t' := s.toks) hH e ?_ (r.eraseIdx j) ?_, rfl, q⟩
  · show its.toArray.eraseIdxIfInBounds j = (its.eraseIdx j).toArray
    rw [List.eraseIdxIfInBounds_toArray]
  · have := len_erase ys j
    omega
def rMutD (K : PySem.W.Frag) : MOp → V → List V → Hp → VK → Prop
  | .append => rAppend
  | .extend => rExtend
  | .pop => rPop
  | .popAt => rPopAt
  | .remove => rRemD K
theorem mt_mutD {X : Cx} (hu : X.A.units + 64 < cLine) : ∀ m, MtM X (mmName m).2 (rMutD X.K m)
  | .append => mt_append
  | .extend => mt_extend
  | .pop => mt_pop
  | .popAt => mt_popAt
  | .remove => mt_remD hu
theorem idxOf_place (p : P) : ∀ {ps : List P} {j : Nat}, idxOf p ps = some j → SeqAt.dataPlace (toPys ps) (toPy p) = some j
  | [], _, h => by cases h
  | q :: ps, j, h => by
    unfold idxOf at h
    unfold SeqAt.dataPlace
    rw [toPys, List.findIdx?_cons, eqv_py]
    by_cases c : peq q p = true
    · rw [if_pos c] at h
      rw [if_pos c]
      exact h
    · rw [if_neg c] at h
      rw [if_neg c]
      cases e : idxOf p ps with
      | none => rw [e] at h; cases h
      | some i =>
        rw [e] at h
        have := idxOf_place p e
        unfold SeqAt.dataPlace at this
        rw [this]
        exact h
theorem ixP_seqIndex {n : Nat} {i : Int} {j : Nat} (h : ixP n i = some j) : seqIndex? i n = some j := (ixN_seq (by rw [← ixP_eq]; exact h)).1
/-- the change by values: a, the list's object; it holds vs, read as xs -/
theorem mut_ok {m : MOp} {a : Addr} {vs ws : List V} {xs ys : List P} {ds : List D} {p : P} {Q : VK} (h0 : H a = some (.lst vs)) (r0 : PReps K H vs xs) (pk : PkAll K H ws ds) (h : mutSem m xs ds = some (ys, p))
    (hQ : ∀ v vs', PReps K H vs' ys → PRep K H v p → Q v (upd H a (.lst vs'))) : rMutD K m (.ref a) ws H Q := by
  unfold mutSem at h
  split at h
  · split at h
    · rename_i c
      cases h
      obtain ⟨v, F, rfl, r⟩ := pk.one
      obtain ⟨r, _⟩ := r.imm_of
      exact ⟨a, vs, v, rfl, rfl, h0, by rw [r0.length]; exact lt_line c, hQ _ _ (r0.append (.cons r .nil)) .non⟩
    · cases h
  · split at h
    · rename_i c
      cases h
      obtain ⟨v, F, rfl, r⟩ := pk.one
      obtain ⟨b, us, rfl, s1, q1, _⟩ := r.lst_of
      exact ⟨a, b, vs, us, rfl, rfl, h0, s1, by rw [r0.length, q1.length]; exact le_line c, hQ _ _ (r0.append q1) .non⟩
    · cases h
  · cases e : xs[xs.length - 1]? with
    | none => rw [e] at h; cases h
    | some q =>
      rw [e] at h
      cases h
      cases pk
      obtain ⟨v, h1, h2⟩ := r0.get e
      exact ⟨a, vs, v, rfl, rfl, h0, by rw [r0.length]; exact h1, hQ _ _ r0.dropLast h2⟩
  · split at h
    · rename_i hz
      obtain ⟨j, h1, h2⟩ := bind_some h
      cases e : xs[j]? with
      | none => rw [e] at h2; cases h2
      | some q =>
        rw [e] at h2
        cases h2
        obtain ⟨v, F, rfl, r⟩ := pk.one
        obtain rfl := r.int_of
        obtain ⟨v, g1, g2⟩ := r0.get e
        obtain ⟨k1, k2, k3, k4⟩ := ixN_seq (by rw [← ixP_eq]; exact h1)
        rw [← r0.length] at k1 k3 k4 hz
        have hz : vs.length ≤ 16777216 := hz
        have e63 : (2 : Int) ^ 63 = 9223372036854775808 := by decide
        exact ⟨a, vs, _, j, v, rfl, rfl, h0, by rw [e63]; omega, by rw [e63]; omega, k1, g1, hQ _ _ (r0.eraseIdx j) g2⟩
    · cases h
  · split at h
    · rename_i c
      cases e : idxOf _ _ with
      | none => rw [e] at h; cases h
      | some j =>
        rw [e] at h
        cases h
        obtain ⟨v, F, rfl, r⟩ := pk.one
        obtain ⟨r, _⟩ := r.imm_of
        exact ⟨a, vs, v, toPy _, toPys _, j, rfl, rfl, h0, r0.dp, r.dp, r0.lay, r.lay, by rw [depth_py, depths_py]; exact c, idxOf_place _ e, hQ _ _ (r0.eraseIdx j) .non⟩
    · cases h
  · cases h
end
end Sw
set_option maxHeartbeats 1000000
/-! Sw, part 10: the checker: which text a core term stands for. -/
namespace Sw
open PySem PySem.Spec PyProof.Rows L2
structure Tab where
  N : List Str
  fns : List (Str × Nat)
  glos : List (Str × P)
def lookB (sc : Scope) (x : Str) (k : NameKind) : Bool := decide (sc.names.lookup x = some k)
def visB (N : List Str) (sc : Scope) (i : Nat) (x : Str) : Bool := decide (N[i]? = some x) && (lookB sc x .local || lookB sc x .cell || lookB sc x .free) && !(x == ("__debug__" : Str)) && !(x == ("__classdict__" : Str))
def glB (sc : Scope) (x : Str) : Bool := lookB sc x .globalImplicit && !(x == ("__debug__" : Str)) && !(x == ("__name__" : Str))
theorem look_of {sc : Scope} {x : Str} {k : NameKind} (h : lookB sc x k = true) : sc.names.lookup x = some k := of_decide_eq_true h
theorem vis_of {N : List Str} {sc : Scope} {i : Nat} {x : Str} (h : visB N sc i x = true) : N[i]? = some x ∧ Vis sc x ∧ (x == ("__debug__" : Str)) = false ∧ (x == ("__classdict__" : Str)) = false := by
  unfold visB at h
  simp only [Bool.and_eq_true, Bool.or_eq_true, Bool.not_eq_true'] at h
  obtain ⟨⟨⟨h1, h2⟩, h3⟩, h4⟩ := h
  refine ⟨of_decide_eq_true h1, ?_, h3, h4⟩
  rcases h2 with (h | h) | h
  · exact .inl (look_of h)
  · exact .inr (.inl (look_of h))
  · exact .inr (.inr (look_of h))
theorem gl_of {sc : Scope} {x : Str} (h : glB sc x = true) : sc.names.lookup x = some .globalImplicit ∧ (x == ("__debug__" : Str)) = false ∧ x ≠ "__name__" := by
  unfold glB at h
  simp only [Bool.and_eq_true, Bool.not_eq_true'] at h
  exact ⟨look_of h.1.1, h.1.2, fun e => by rw [e] at h; simp at h⟩
def notStar : Expr → Bool
  | .Starred .. => false
  | _ => true
theorem star_of {e : Expr} (h : notStar e = true) (es : List Expr) (env : PySem.Env) : starEach (e :: es) env = (false, eval e env) :: starEach es env := by
  cases e <;> first | rfl | cases h
theorem stars_of {env : PySem.Env} {pos : Pos} : ∀ {es : List Expr}, es.all notStar = true → (backTo pos (starEach es env)).any (·.1) = false
  | [], _ => rfl
  | e :: es, h => by
    rw [List.all_cons, Bool.and_eq_true] at h
    rw [star_of h.1]
    show (false || (backTo pos (starEach es env)).any (·.1)) = false
    rw [stars_of h.2] <;> rfl
theorem stars_all {env : PySem.Env} {pos : Pos} : ∀ {es : List Expr}, es.all notStar = true → (backTo pos (starEach es env)).all (fun x => !x.1) = true
  | [], _ => rfl
  | e :: es, h => by
    rw [List.all_cons, Bool.and_eq_true] at h
    rw [star_of h.1]
    show (true && (backTo pos (starEach es env)).all (fun x => !x.1)) = true
    rw [stars_all h.2] <;> rfl
def notSlice : Expr → Bool
  | .Slice .. => false
  | _ => true
theorem plainIx_of {b : Expr} (h : notSlice b = true) : PlainIx b := fun o i => by
  cases b <;> first | rfl | cases h
def notSet : Expr → Bool
  | .Set .. => false
  | _ => true
theorem notSet_of {e : Expr} (h : notSet e = true) (env : PySem.Env) (x : Value) : foldedSetIterable e env x = pure x := by
  cases e <;> first | rfl | cases h
theorem notSet_mark {op : CmpOp} {e : Expr} (h : notSet e = true) : behindInMarks op e = false := by
  cases e <;> first | rfl | cases h
def plainTest : Expr → Bool
  | .UnaryOp .. => false
  | .BoolOp .. => false
  | .IfExp .. => false
  | .Compare .. => false
  | _ => true
theorem plainTest_of {e : Expr} (h : plainTest e = true) (env : PySem.Env) (whole : Sem Value) : isTrue e env whole = (do let v ← whole; standAt e.pos; holding [v] (truthy v)) := by
  cases e <;> first | rfl | cases h
def baseOk : Expr → Bool
  | .Call _ [] _ _ => false
  | _ => true
theorem base_of {o : Expr} (h : baseOk o = true) (attr : Str) (env : PySem.Env) (whole : Sem Value) : attributeBase o attr env whole = whole := by
  unfold attributeBase
  split
  · cases h
  · rfl
def constB (p : P) (c : Const) : Bool := match p, c with
  | .non, .none => true
  | .bl a, .bool b => a == b
  | .int a, .int b => a == b
  | .str a, .str b => decide (b = sOf a) && chrOk a
  | _, _ => false
/-- the built-ins by name -/
def bltOf : Op → Option (Str × Value × Nat)
  | .len => some ("len", .builtin "len", 1)
  | .list => some ("list", .type "list", 1)
  | .tuple => some ("tuple", .type "tuple", 1)
  | .min2 => some ("min", .builtin "min", 2)
  | .max2 => some ("max", .builtin "max", 2)
  | .int => some ("int", .type "int", 1)
  | .abs => some ("abs", .builtin "abs", 1)
  | .sum => some ("sum", .builtin "sum", 1)
  | .all => some ("all", .builtin "all", 1)
  | .any => some ("any", .builtin "any", 1)
  | _ => none
def bltNames : List Str := ["len", "list", "tuple", "min", "max", "int", "abs", "sum", "all", "any", "isinstance", "bool", "str", "range", "enumerate", "zip"]
def binOf : Op → Option Operator
  | .add => some .Add
  | .sub => some .Sub
  | .mul => some .Mult
  | .fdiv => some .FloorDiv
  | .mod => some .Mod
  | .pow => some .Pow
  | .xor => some .BitXor
  | _ => none
def cmpOf : Op → Option CmpOp
  | .eq => some .Eq
  | .ne => some .NotEq
  | .lt => some .Lt
  | .le => some .LtE
  | .gt => some .Gt
  | .ge => some .GtE
  | .isin => some .In
  | .notin => some .NotIn
  | .isB => some .Is
  | .notB => some .IsNot
  | _ => none
def mthOf : Op → Option (Str × Nat)
  | .join => some ("join", 1)
  | .index => some ("index", 1)
  | _ => none
def tyNm (sc : Scope) (t : Ty) : Expr → Bool
  | .Name x _ => decide (x = (tyName t : Str)) && glB sc x
  | _ => false
def tyNms (sc : Scope) : List Ty → List Expr → Bool
  | [], [] => true
  | t :: ts, e :: es => tyNm sc t e && tyNms sc ts es
  | _, _ => false
/-- [::-1], [::0 - 1] -/
def isNeg1 : Expr → Bool
  | .UnaryOp .USub (.Constant (.int 1) _ _) _ => true
  | .BinOp (.Constant (.int 0) _ _) .Sub (.Constant (.int 1) _ _) _ => true
  | _ => false
def isNoneC : Expr → Bool
  | .Constant .none _ _ => true
  | _ => false
def isTup : Expr → Bool
  | .Tuple .. => true
  | _ => false
theorem isTup_of {e : Expr} (h : isTup e = true) : ∃ xs j pos, e = .Tuple xs j pos := by
  cases e <;> first | (cases h; done) | exact ⟨_, _, _, rfl⟩
def chkC (sc : Scope) (y : Str) (n : Nat) (ck : List Expr → Bool) (x : Expr) : Bool := match x with
  | .Call f args kws _ => (match f, kws with
    | .Name z _, [] => glB sc z && ck args && decide (z = y) && decide (args.length = n)
    | _, _ => false)
  | _ => false
theorem chkC_of {sc : Scope} {y : Str} {n : Nat} {ck : List Expr → Bool} {x : Expr} (h : chkC sc y n ck x = true) : ∃ p args pos, x = .Call (.Name y p) args [] pos ∧ glB sc y = true ∧ ck args = true ∧ args.length = n := by
  unfold chkC at h
  split at h
  · split at h
    · simp only [Bool.and_eq_true] at h
      obtain ⟨⟨⟨h1, h2⟩, h3⟩, h4⟩ := h
      obtain rfl := of_decide_eq_true h3
      exact ⟨_, _, _, rfl, h1, h2, of_decide_eq_true h4⟩
    · cases h
  · cases h
/-- the text of what is walked -/
def chkI (sc : Scope) (isT : Bool) (k : IK) (ck : List Expr → Bool) (x : Expr) : Bool := match k with
  | .seq => notSet x && ck [x]
  | .rng1 => chkC sc "range" 1 ck x
  | .rng2 => chkC sc "range" 2 ck x
  | .rng3 => chkC sc "range" 3 ck x
  | .enum => isT && chkC sc "enumerate" 1 ck x
  | .zip => isT && chkC sc "zip" 2 ck x
theorem chkC_set {sc : Scope} {y : Str} {n : Nat} {ck : List Expr → Bool} {x : Expr} (h : chkC sc y n ck x = true) : notSet x = true := by
  obtain ⟨p, args, pos, rfl, _⟩ := chkC_of h
  rfl
theorem chkI_set {sc : Scope} {isT : Bool} {k : IK} {ck : List Expr → Bool} {x : Expr} (h : chkI sc isT k ck x = true) : notSet x = true := by
  unfold chkI at h
  split at h
  · rw [Bool.and_eq_true] at h; exact h.1
  · exact chkC_set h
  · exact chkC_set h
  · exact chkC_set h
  · rw [Bool.and_eq_true] at h; exact chkC_set h.2
  · rw [Bool.and_eq_true] at h; exact chkC_set h.2
/-! ### targets -/
mutual
def chkP (N : List Str) (st : Str → Bool) : Pat → Expr → Bool
  | .nm i, e => (match e with
    | .Name x _ => decide (N[i]? = some x) && st x
    | _ => false)
  | .tp ts, e => (match e with
    | .Tuple xs _ _ => chkPs N st ts xs
    | _ => false)
def chkPs (N : List Str) (st : Str → Bool) : List Pat → List Expr → Bool
  | [], xs => xs.isEmpty
  | t :: ts, xs => (match xs with
    | x :: xs => notStar x && chkP N st t x && chkPs N st ts xs
    | _ => false)
end
def stB (sc : Scope) (x : Str) : Bool := lookB sc x .local || lookB sc x .cell
def ownN (N : List Str) (own : List Nat) : List (Str × Nat) := own.map fun i => (N.getD i ("" : Str), i)
mutual
/-- what may stand as a test -/
def tstB : E → Bool
  | .op .neg _ => false
  | .ife .. => false
  | .frz _ => false
  | .and es => tstBs es
  | .or es => tstBs es
  | _ => true
def tstBs : List E → Bool
  | [] => true
  | e :: es => tstB e && tstBs es
end
mutual
def chkE (T : Tab) (sc : Scope) : E → Expr → Bool
  | .nm i, e => (match e with
    | .Name x _ => visB T.N sc i x
    | _ => false)
  | .cst p, e => (match e with
    | .Constant c _ _ => constB p c
    | _ => false)
  | .glo j, e => (match e with
    | .Name x _ => glB sc x && decide ((T.glos[j]?).map (·.1) = some x)
    | _ => false)
  | .mv i, e => (match e with
    | .Name x _ => visB T.N sc i x
    | _ => false)
  | .tup es, e => (match e with
    | .Tuple xs _ _ => chkEs T sc es xs
    | _ => false)
  | .lst es, e => (match e with
    | .List xs _ => chkEs T sc es xs
    | _ => false)
  | .op o es, e => (match e with
    | .BinOp a op b _ => decide (binOf o = some op) && chkEs T sc es [a, b]
    | .UnaryOp op a _ => decide (op = .USub) && decide (o = .neg) && chkEs T sc es [a]
    | .Compare a ops bs _ => (match ops, bs with
      | [op], [b] => (decide (cmpOf o = some op) && notSet b && chkEs T sc es [a, b]) || (isNoneC b && (decide (o = .isN) && decide (op = .Is) || decide (o = .notN) && decide (op = .IsNot)) && chkEs T sc es [a])
      | _, _ => false)
    | .Subscript a b _ => (match b with
      | .Slice lo hi st _ => (match lo, hi, st with
        | none, none, some s => isNeg1 s && decide (o = .rev) && chkEs T sc es [a]
        | _, _, _ => false)
      | b => decide (o = .idx) && notSlice b && chkEs T sc es [a, b])
    | .Call f args kws _ => (match f, kws with
      | .Name x _, [] => (match o with
        | .isi ts => decide (x = ("isinstance" : Str)) && glB sc x && (match args with
          | [a, b] => notStar a && notStar b && chkEs T sc es [a] && (match b with
            | .Tuple bs _ _ => decide (ts.length ≤ 10) && tyNms sc ts bs
            | b => (match ts with
              | [t] => tyNm sc t b
              | _ => false))
          | _ => false)
        | o => (match bltOf o with
          | some (y, _, n) => decide (x = y) && glB sc x && decide (args.length = n) && chkEs T sc es args
          | none => false))
      | _, _ => false)
    | _ => false)
  | .mth o a es, e => (match e with
    | .Call f args kws cpos => (match f, kws with
      | .Attribute ob name apos, [] => (match mthOf o with
        | some (y, n) => decide (name = y) && decide (args.length = n) && baseOk ob && (apos.endLine == cpos.line) && notStar ob && chkE T sc a ob && chkEs T sc es args
        | none => false)
      | _, _ => false)
    | _ => false)
  | .chain o1 o2 a b c, e => (match e with
    | .Compare x ops ys _ => (match ops, ys with
      | [p, q], [y, z] => decide (cmpOf o1 = some p) && decide (cmpOf o2 = some q) && notSet y && notSet z && notStar x && notStar y && notStar z && chkE T sc a x && chkE T sc b y && chkE T sc c z
      | _, _ => false)
    | _ => false)
  | .and es, e => (match e with
    | .BoolOp op xs _ => decide (op = .And) && !xs.isEmpty && chkEs T sc es xs
    | _ => false)
  | .or es, e => (match e with
    | .BoolOp op xs _ => decide (op = .Or) && !xs.isEmpty && chkEs T sc es xs
    | _ => false)
  | .not a, e => (match e with
    | .UnaryOp op x _ => decide (op = .Not) && chkE T sc a x && tstB a
    | _ => false)
  | .ife t a b, e => (match e with
    | .IfExp x y z _ => chkE T sc t x && tstB t && chkE T sc a y && chkE T sc b z
    | _ => false)
  | .slc a lo hi, e => (match e with
    | .Subscript x s _ => (match s with
      | .Slice l h st _ => (match st with
        | none => chkE T sc a x && chkO T sc lo l && chkO T sc hi h
        | _ => false)
      | _ => false)
    | _ => false)
  | .mut m i es, e => (match e with
    | .Call f args kws cpos => (match f, kws with
      | .Attribute ob name apos, [] => (match ob with
        | .Name x _ => visB T.N sc i x && decide (name = (mmName m).1) && (apos.endLine == cpos.line) && decide (args.length < 20) && chkEs T sc es args
        | _ => false)
      | _, _ => false)
    | _ => false)
  | .call f es, e => (match e with
    | .Call g args kws _ => (match g, kws with
      | .Name x _, [] => glB sc x && decide (T.fns[f]? = some (x, args.length)) && chkEs T sc es args
      | _, _ => false)
    | _ => false)
  | .cmp own t k as tests elt, e => (match e with
    | .ListComp x gens scope _ => (match gens with
      | [⟨tg, iter, ifs, asy⟩] => decide (asy = 0) && chkI sc (isTup tg) k (fun xs => chkEs T sc as xs) iter && blkC T.N sc scope (ownN T.N own) && chkP T.N (stB scope) t tg && (asgP t).all (fun i => own.contains i) &&
          decide own.Nodup && tstBs tests && decide (tests.length ≤ 1) && chkEs T (relS scope sc) tests ifs && chkE T (relS scope sc) elt x
      | _ => false)
    | _ => false)
  | .cmp2 own own2 t k as tests t2 k2 as2 tests2 elt, e => false
  | .frz a, e => chkE T sc a e
def chkEs (T : Tab) (sc : Scope) : List E → List Expr → Bool
  | [], xs => (match xs with
    | [] => true
    | _ => false)
  | a :: as, xs => (match xs with
    | x :: xs => notStar x && chkE T sc a x && chkEs T sc as xs
    | _ => false)
def chkO (T : Tab) (sc : Scope) : Option E → Option Expr → Bool
  | none, x => x.isNone
  | some a, x => (match x with
    | some y => chkE T sc a y
    | none => false)
end
end Sw
set_option maxHeartbeats 1000000
/-! Sw, part 11: soundness, the nodes. -/
namespace Sw
open PySem PySem.Spec PyProof.Rows L2
/-- a def's promise by the evaluator's function -/
def spD (K : PySem.W.Frag) (φ : List D → Option (D × List D)) : Sp := fun vs H Q _ => ∃ ds Fs d rs, Reps K H vs ds Fs ∧ Fs.Nodup ∧ φ ds = some (d, rs) ∧
  ∀ v H' Fd Fr, Rep K H' v d Fd → Reps K H' vs rs Fr → (Fd ++ Fr).Nodup → Stp H Fs H' (Fd ++ Fr) → Q v H'
structure Good (T : Tab) (Φ : CallS) (k : Nat) (sc : Scope) (X : Cx) : Prop where
  N : X.N = T.N
  nd : T.N.Nodup
  calm : X.calm = true
  room : Room k X.A
  scope : X.env.scope = sc
  glos : ∀ (j : Nat) (x : Str) (p : P), T.glos[j]? = some (x, p) → ∃ (u : Value) (v : V), X.mg x = some u ∧ RelV v u ∧ ∀ H, PRep X.K H v p
  fns : ∀ (j : Nat) (x : Str) (n : Nat), T.fns[j]? = some (x, n) → ∃ (f : Addr) (fd : FuncData) (ps : List Str), X.mg x = some (.ref f) ∧ PySem.W.keepIn X.K (.ref f) = true ∧ Binds X.K fd ps [] ∧ ps.length = n ∧
    FnOk X.prog X.w X.K X.mg X.base CX0 k f fd ps (spD X.K (Φ j))
  blt : ∀ x ∈ bltNames, X.mg x = none
def Tab.G (T : Tab) : List P := T.glos.map (·.2)
section
variable {T : Tab} {Φ : CallS} {k : Nat} {sc : Scope} {X : Cx}
theorem Good.hu (g : Good T Φ k sc X) : X.A.units + 64 < cLine := g.room.units
theorem Good.gl (g : Good T Φ k sc X) {x : Str} (h : sc.names.lookup x = some .globalImplicit) : Gl X x := by
  unfold Gl Env.kindOf
  rw [g.scope]
  exact h
end
section
variable {K : PySem.W.Frag} {σ : L2.St} {H : Hp} {Q : VK} {e e1 e2 : En} {F : List Addr}
/-- a tO of what is known -/
theorem tO_mk {f : M Opd} {o : Opd} (he : EnvRep K H σ e F) (n : F.Nodup) (hf : f e = some (o, e1)) (h : ∀ v H1 Fd F1, ORep K H1 σ v o Fd → EnvRep K H1 σ e1 F1 → (Fd ++ F1).Nodup → Stp H F H1 (Fd ++ F1) → Q v H1) : tO K f σ H Q := ⟨e, F, o, e1, he, n, hf, h⟩
theorem ORep.frame {H1 H2 : Hp} {v : V} {o : Opd} {Fd F1 G : List Addr} (r : ORep K H1 σ v o Fd) (he : EnvRep K H1 σ e1 F1) (n : (Fd ++ F1).Nodup) (s : Stp H1 F1 H2 G) : ORep K H2 σ v o Fd := by
  obtain ⟨h1, h2⟩ := stp_keep s he.mut r.mut n
  exact r.mono h1 h2
theorem ORs.frame {H1 H2 : Hp} {v : List V} {o : List Opd} {Fd F1 G : List Addr} (r : ORs K H1 σ v o Fd) (he : EnvRep K H1 σ e1 F1) (n : (Fd ++ F1).Nodup) (s : Stp H1 F1 H2 G) : ORs K H2 σ v o Fd := by
  obtain ⟨h1, h2⟩ := stp_keep s he.mut r.mut n
  exact r.mono h1 h2
/-- two values in a row -/
theorem two_ops {fa fb : M Opd} {x y : Opd} {R : V → V → Hp → Prop} (he : EnvRep K H σ e F) (n : F.Nodup) (hx : fa e = some (x, e1)) (hy : fb e1 = some (y, e2))
    (C : ∀ vx vy H2 Fs F2, ORs K H2 σ [vx, vy] [x, y] Fs → EnvRep K H2 σ e2 F2 → (Fs ++ F2).Nodup → Stp H F H2 (Fs ++ F2) → R vx vy H2) : tO K fa σ H fun vx H1 => tO K fb σ H1 fun vy H2 => R vx vy H2 := by
  refine tO_mk he n hx fun vx H1 Fx F1 ox he1 n1 s1 => tO_mk he1 (nd_right n1) hy fun vy H2 Fy F2 oy he2 n2 s2 => ?_
  obtain ⟨s3, n3⟩ := stp_two s1 n1 ox.mut s2 n2
  have ox2 := ox.frame he1 n1 s2
  refine C vx vy H2 (Fx ++ (Fy ++ [])) F2 (.cons ox2 (.cons oy .nil)) he2 ?_ ?_
  · rw [List.append_nil, List.append_assoc]; exact n3
  · rw [List.append_nil, List.append_assoc]; exact s3
theorem evos_one {Φ : CallS} {G : List P} {a : E} {os : List Opd} (h : evos Φ G [a] e = some (os, e1)) : ∃ x, evo Φ G a e = some (x, e1) ∧ os = [x] := by
  simp only [evos] at h
  obtain ⟨⟨x, f1⟩, h1, h2⟩ := bind_some h
  simp only [Option.bind_some] at h2
  cases h2
  exact ⟨x, h1, rfl⟩
theorem evos_cons {Φ : CallS} {G : List P} {a : E} {as : List E} {os : List Opd} (h : evos Φ G (a :: as) e = some (os, e2)) : ∃ x xs e1, evo Φ G a e = some (x, e1) ∧ evos Φ G as e1 = some (xs, e2) ∧ os = x :: xs := by
  simp only [evos] at h
  obtain ⟨⟨x, f1⟩, h1, h2⟩ := bind_some h
  obtain ⟨⟨xs, f2⟩, h3, h4⟩ := bind_some h2
  cases h4
  exact ⟨x, xs, f1, h1, h3, rfl⟩
theorem evos_two {Φ : CallS} {G : List P} {a b : E} {os : List Opd} (h : evos Φ G [a, b] e = some (os, e2)) : ∃ x y e1, evo Φ G a e = some (x, e1) ∧ evo Φ G b e1 = some (y, e2) ∧ os = [x, y] := by
  obtain ⟨x, xs, f, h1, h2, rfl⟩ := evos_cons h
  obtain ⟨y, h3, rfl⟩ := evos_one h2
  exact ⟨x, y, f, h1, h3, rfl⟩
theorem evo_op {Φ : CallS} {G : List P} {o : Op} {es : List E} {r : Opd} (h : evo Φ G (.op o es) e = some (r, e1)) : ∃ os ds d, evos Φ G es e = some (os, e1) ∧ resvs e1 os = some ds ∧ opSem o ds = some d ∧ r = .tmp d := by
  simp only [evo] at h
  obtain ⟨⟨os, f⟩, h1, h2⟩ := bind_some h
  obtain ⟨ds, h3, h4⟩ := bind_some h2
  obtain ⟨d, h5, h6⟩ := bind_some h4
  cases h6
  exact ⟨os, ds, d, h1, h3, h5, rfl⟩
/-- an operator of two, by its values' rule -/
theorem tOp_of {Φ : CallS} {G : List P} {o : Op} {a b : E} {r : R2} (ok : OpOk K (r2n r) (opSem o)) (h : tO K (evo Φ G (.op o [a, b])) σ H Q) : tOp r (tO K (evo Φ G a)) (tO K (evo Φ G b)) σ H Q := by
  obtain ⟨e, F, z, e', he, n, hf, hQ⟩ := h
  obtain ⟨os, ds, d, h1, h2, h3, rfl⟩ := evo_op hf
  obtain ⟨x, y, e1, h4, h5, rfl⟩ := evos_two h1
  refine two_ops he n h4 h5 fun vx vy H2 Fs F2 rs he2 n2 s2 => ?_
  obtain ⟨v, u, e, q⟩ := ops_end ok rs he2 n2 s2 h2 h3 hQ
  cases e
  exact q
theorem tUn_of {Φ : CallS} {G : List P} {o : Op} {a : E} {r : V → Hp → VK → Prop} (ok : OpOk K (r1n r) (opSem o)) (h : tO K (evo Φ G (.op o [a])) σ H Q) : tUn r (tO K (evo Φ G a)) σ H Q := by
  obtain ⟨e, F, z, e', he, n, hf, hQ⟩ := h
  obtain ⟨os, ds, d, h1, h2, h3, rfl⟩ := evo_op hf
  obtain ⟨x, h4, rfl⟩ := evos_one h1
  refine tO_mk he n h4 fun vx H1 Fx F1 ox he1 n1 s1 => ?_
  have ox' : ORs K H1 σ [vx] [x] (Fx ++ []) := .cons ox .nil
  obtain ⟨v, e, q⟩ := ops_end ok ox' he1 (by rw [List.append_nil]; exact n1) (by rw [List.append_nil]; exact s1) h2 h3 hQ
  cases e
  exact q
/-- a built-in called -/
theorem tCB_of {Φ : CallS} {G : List P} {o : Op} {es : List E} {r : List V → Hp → VK → Prop} (ok : OpOk K r (opSem o)) (h : tO K (evo Φ G (.op o es)) σ H Q) : tCB r (tOs K (evos Φ G es)) σ H Q := by
  obtain ⟨e, F, z, e', he, n, hf, hQ⟩ := h
  obtain ⟨os, ds, d, h1, h2, h3, rfl⟩ := evo_op hf
  exact ⟨e, F, os, e', he, n, h1, fun vs H2 Fs F2 rs he2 n2 s2 => ops_end ok rs he2 n2 s2 h2 h3 hQ⟩
end
section
variable {T : Tab} {Φ : CallS} {k : Nat} {sc : Scope} {X : Cx}
theorem snd_nil : PA X [] (tOs X.K (evos Φ T.G [])) := PA.weak pa_nil fun σ H Q h => by
  obtain ⟨e, F, o, e', he, n, hf, hQ⟩ := h
  simp only [evos, Option.some.injEq, Prod.mk.injEq] at hf
  obtain ⟨rfl, rfl⟩ := hf
  exact hQ [] H [] F .nil he n (Stp.refl H F)
theorem snd_cons {a : E} {as : List E} {x : Expr} {xs : List Expr} (ha : PE X x (tO X.K (evo Φ T.G a))) (hs : PA X xs (tOs X.K (evos Φ T.G as))) (ns : notStar x = true) : PA X (x :: xs) (tOs X.K (evos Φ T.G (a :: as))) :=
  PA.weak (pa_cons ha hs (star_of ns _ _)) fun σ H Q h => by
    obtain ⟨e, F, o, e', he, n, hf, hQ⟩ := h
    obtain ⟨y, ys, e1, h1, h2, rfl⟩ := evos_cons hf
    refine tO_mk he n h1 fun vx H1 Fx F1 ox he1 n1 s1 => ⟨e1, F1, ys, e', he1, nd_right n1, h2, fun vs H2 Fs F2 rs he2 n2 s2 => ?_⟩
    obtain ⟨s3, n3⟩ := stp_two s1 n1 ox.mut s2 n2
    refine hQ (vx :: vs) H2 (Fx ++ Fs) F2 (.cons (ox.frame he1 n1 s2) rs) he2 ?_ ?_
    · rw [List.append_assoc]; exact n3
    · rw [List.append_assoc]; exact s3
/-- tuple, list display -/
theorem snd_tup {es : List E} {xs : List Expr} {j : Nat} {pos : Pos} (h : PA X xs (tOs X.K (evos Φ T.G es))) : PE X (.Tuple xs j pos) (tO X.K (evo Φ T.G (.tup es))) :=
  PE.weak (pe_tup h) fun σ H Q h => by
    obtain ⟨e, F, o, e', he, n, hf, hQ⟩ := h
    simp only [evo] at hf
    obtain ⟨⟨os, e1⟩, h1, h2⟩ := bind_some hf
    obtain ⟨ps, h3, h4⟩ := bind_some h2
    split at h4
    · rename_i hl
      cases h4
      refine ⟨e, F, os, _, he, n, h1, fun vs H2 Fs F2 rs he2 n2 s2 => ?_⟩
      obtain ⟨q1, rfl⟩ := immOs_ok rs h3
      refine ⟨by rw [q1.length]; exact le_line hl, fun p hp => ?_⟩
      obtain ⟨s3, n3⟩ := stp_new (F3 := []) s2 n2 he2.mut (same_new hp) (fun a z => nomatch z) List.nodup_nil
      exact hQ _ _ [] F2 (Rep.imm (.tup (SqT.of upd_same) (q1.keep (Keeps.of_same (same_new hp))))) (he2.same (same_new hp)) n3 s3
    · cases h4
theorem snd_lst {es : List E} {xs : List Expr} {pos : Pos} (h : PA X xs (tOs X.K (evos Φ T.G es))) : PE X (.List xs pos) (tO X.K (evo Φ T.G (.lst es))) :=
  PE.weak (pe_lst h) fun σ H Q h => by
    obtain ⟨e, F, o, e', he, n, hf, hQ⟩ := h
    simp only [evo] at hf
    obtain ⟨⟨os, e1⟩, h1, h2⟩ := bind_some hf
    obtain ⟨ps, h3, h4⟩ := bind_some h2
    split at h4
    · rename_i hl
      cases h4
      refine ⟨e, F, os, _, he, n, h1, fun vs H2 Fs F2 rs he2 n2 s2 => ?_⟩
      obtain ⟨q1, rfl⟩ := immOs_ok rs h3
      refine ⟨by rw [q1.length]; exact le_line hl, fun p hp => ?_⟩
      obtain ⟨s3, n3⟩ := stp_new (F3 := [p]) s2 n2 he2.mut (same_new hp) (fun a z => by rw [List.mem_singleton.mp z]; exact hp) (by simp)
      exact hQ _ _ [p] F2 (Rep.lst upd_same (q1.keep (Keeps.of_same (same_new hp)))) (he2.same (same_new hp)) n3 s3
    · cases h4
/-- a name -/
theorem snd_nm {i : Nat} {x : Str} {pos : Pos} (g : Good T Φ k sc X) (h : visB T.N sc i x = true) : PE X (.Name x pos) (tO X.K (evo Φ T.G (.nm i))) := by
  obtain ⟨h1, h2, h3, h4⟩ := vis_of h
  refine PE.weak (pe_var (i := i) (by rw [g.N]; exact h1) (by rw [g.scope]; exact h2) h3 h4) fun σ H Q h => ?_
  obtain ⟨e, F, o, e', he, n, hf, hQ⟩ := h
  simp only [evo] at hf
  obtain ⟨o', h5, h6⟩ := bind_some hf
  cases h6
  unfold nmSem at h5
  split at h5
  · rename_i p hp
    cases h5
    obtain ⟨v, Fi, g1, g2, _⟩ := he.get hp
    obtain ⟨q, _⟩ := g2.imm_of
    exact ⟨v, g1, hQ v H [] F (Rep.imm q) he n (Stp.refl H F)⟩
  · rename_i ps hp
    cases h5
    obtain ⟨v, Fi, g1, g2, _⟩ := he.get hp
    exact ⟨v, g1, hQ v H [] F ⟨g1, rfl⟩ he n (Stp.refl H F)⟩
  · cases h5
theorem snd_mv {i : Nat} {x : Str} {pos : Pos} (g : Good T Φ k sc X) (h : visB T.N sc i x = true) : PE X (.Name x pos) (tO X.K (evo Φ T.G (.mv i))) := by
  obtain ⟨h1, h2, h3, h4⟩ := vis_of h
  refine PE.weak (pe_var (i := i) (by rw [g.N]; exact h1) (by rw [g.scope]; exact h2) h3 h4) fun σ H Q h => ?_
  obtain ⟨e, F, o, e', he, n, hf, hQ⟩ := h
  simp only [evo] at hf
  unfold mvSem at hf
  split at hf
  · rename_i p hp
    cases hf
    obtain ⟨v, Fi, g1, g2, _⟩ := he.get hp
    obtain ⟨q, _⟩ := g2.imm_of
    exact ⟨v, g1, hQ v H [] F (Rep.imm q) he n (Stp.refl H F)⟩
  · rename_i ps hp
    cases hf
    obtain ⟨v, Fi, F', g1, g2, g3, g4, g5⟩ := he.out hp
    exact ⟨v, g1, hQ v H Fi F' g2 g3 (g5 n) ((Stp.refl H F).less (fun a z => z) fun a z => g4 a z)⟩
  · cases hf
/-- a constant -/
theorem tC_of {K : PySem.W.Frag} {f : M Opd} {v : V} {p : P} (hp : ∀ H, PRep K H v p) (hf : ∀ e, f e = some (.tmp (.imm p), e)) (σ : L2.St) (H : Hp) (Q : VK) (h : tO K f σ H Q) : tC v σ H Q := by
  obtain ⟨e, F, o, e', he, n, hf', hQ⟩ := h
  rw [hf e] at hf'
  cases hf'
  exact hQ v H [] F (Rep.imm (hp H)) he n (Stp.refl H F)
theorem snd_cst {p : P} {c : Const} {j : Nat} {pos : Pos} (h : constB p c = true) : PE X (.Constant c j pos) (tO X.K (evo Φ T.G (.cst p))) := by
  have hf : ∀ e, evo Φ T.G (.cst p) e = some (.tmp (.imm p), e) := fun e => by simp only [evo]
  cases p <;> cases c <;> first | (cases h; done) | skip
  · exact PE.weak pe_non (tC_of (fun H => .non) hf)
  · obtain rfl := eq_of_beq (show (_ == _) = true from h)
    exact PE.weak pe_bl (tC_of (fun H => .bl _) hf)
  · obtain rfl := eq_of_beq (show (_ == _) = true from h)
    exact PE.weak pe_int (tC_of (fun H => .int _) hf)
  · have h : (decide (_ = sOf _) && chrOk _) = true := h
    rw [Bool.and_eq_true] at h
    obtain rfl := of_decide_eq_true h.1
    exact PE.weak pe_str (tC_of (fun H => .str _ h.2) hf)
theorem snd_glo {j : Nat} {x : Str} {pos : Pos} (g : Good T Φ k sc X) (h : glB sc x = true) (h2 : (T.glos[j]?).map (·.1) = some x) : PE X (.Name x pos) (tO X.K (evo Φ T.G (.glo j))) := by
  cases q : T.glos[j]? with
  | none => rw [q] at h2; cases h2
  | some z =>
    obtain ⟨y, p⟩ := z
    rw [q] at h2
    cases h2
    obtain ⟨u, v, m, r, hp⟩ := g.glos j _ p q
    obtain ⟨g1, g2, g3⟩ := gl_of h
    refine PE.weak (pe_glob (g.gl g1) m r g2) (tC_of hp fun e => ?_)
    simp only [evo, Tab.G, List.getElem?_map, q]
    rfl
end
end Sw
set_option maxHeartbeats 1000000
/-! Sw, part 12: soundness, operators and calls. -/
namespace Sw
open PySem PySem.Spec PyProof.Rows L2
section
variable {T : Tab} {Φ : CallS} {k : Nat} {sc : Scope} {X : Cx}
/-- x op y -/
theorem snd_bin {o : Op} {op : Operator} {a b : E} {x y : Expr} {pos : Pos} (g : Good T Φ k sc X) (h : binOf o = some op) (ha : PE X x (tO X.K (evo Φ T.G a))) (hb : PE X y (tO X.K (evo Φ T.G b))) : PE X (.BinOp x op y pos) (tO X.K (evo Φ T.G (.op o [a, b]))) := by
  cases o <;> first | (cases h; done) | (cases h)
  · exact PE.weak (pe_op op_addD ha hb) fun σ H Q => tOp_of ok_add
  · exact PE.weak (pe_op op_sub ha hb) fun σ H Q => tOp_of ok_sub
  · exact PE.weak (pe_op op_mulD ha hb) fun σ H Q => tOp_of ok_mul
  · exact PE.weak (pe_op op_fdivN ha hb) fun σ H Q => tOp_of ok_fdiv
  · exact PE.weak (pe_op op_modN ha hb) fun σ H Q => tOp_of ok_mod
  · exact PE.weak (pe_op op_pow ha hb) fun σ H Q => tOp_of ok_pow
  · exact PE.weak (pe_op op_xor ha hb) fun σ H Q => tOp_of ok_xor
/-- a comparison's rule -/
def rCmpO (K : PySem.W.Frag) : Op → R2
  | .eq => rEqP K
  | .ne => rNeP K
  | .lt => rCmpD (fun i j => decide (i < j)) fun a b => decide (a < b)
  | .le => rCmpD (fun i j => decide (i ≤ j)) fun a b => !decide (b < a)
  | .gt => rCmpD (fun i j => decide (j < i)) fun a b => decide (b < a)
  | .ge => rCmpD (fun i j => decide (j ≤ i)) fun a b => !decide (a < b)
  | .isin => rInP K false
  | .notin => rInP K true
  | .isB => rIsB
  | .notB => rNotB
  | _ => fun _ _ _ _ => False
theorem cmp_rule {o : Op} {op : CmpOp} (hu : X.A.units + 64 < cLine) (h : cmpOf o = some op) : OpR X (compareOp op) (rCmpO X.K o) := by
  cases o <;> first | (cases h; done) | (cases h)
  · exact op_eqP hu
  · exact op_neP hu
  · exact op_ltD
  · exact op_leD
  · exact op_gtD
  · exact op_geD
  · exact op_inP hu
  · exact op_notInP hu
  · exact op_isBl
  · exact op_notBl
theorem cmp_ok {K : PySem.W.Frag} {o : Op} {op : CmpOp} (h : cmpOf o = some op) : OpOk K (r2n (rCmpO K o)) (opSem o) := by
  cases o <;> first | (cases h; done) | (cases h)
  · exact ok_eq
  · exact ok_ne
  · exact ok_lt
  · exact ok_le
  · exact ok_gt
  · exact ok_ge
  · exact ok_isin
  · exact ok_notin
  · exact ok_isB
  · exact ok_notB
/-- a comparison gives a bool -/
theorem cmp_bool {o : Op} {op : CmpOp} {ds : List D} {d : D} (h : cmpOf o = some op) (hs : opSem o ds = some d) : ∃ b, d = .imm (.bl b) := by
  have two : ∀ {f : Int → Int → Bool} {g : List Nat → List Nat → Bool} {x y : D}, opCmpI f g x y = some d → ∃ b, d = .imm (.bl b) := fun {f g x y} h => by
    unfold opCmpI at h
    split at h
    · exact ⟨_, ib_inv h⟩
    · exact ⟨_, ib_inv h⟩
    · cases h
  have bnd : ∀ {x : Option Bool}, x.bind ib = some d → ∃ b, d = .imm (.bl b) := fun {x} h => by
    obtain ⟨b, _, h2⟩ := bind_some h
    exact ⟨_, ib_inv h2⟩
  have bndN : ∀ {x : Option Bool}, x.bind (fun b => ib (!b)) = some d → ∃ b, d = .imm (.bl b) := fun {x} h => by
    obtain ⟨b, _, h2⟩ := bind_some h
    exact ⟨_, ib_inv h2⟩
  have isb : ∀ {n : Bool} {x y : D}, isB2 n x y = some d → ∃ b, d = .imm (.bl b) := fun {n x y} h => by
    unfold isB2 at h
    split at h
    · exact ⟨_, ib_inv h⟩
    · cases h
  cases o <;> first | (cases h; done) | (cases h)
  all_goals
    match ds, hs with
    | [x, y], hs => first
      | exact two hs
      | exact bnd hs
      | exact bndN hs
      | exact isb hs
theorem snd_cmp {o : Op} {op : CmpOp} {a b : E} {x y : Expr} {pos : Pos} (g : Good T Φ k sc X) (h : cmpOf o = some op) (hm : notSet y = true) (ha : PE X x (tO X.K (evo Φ T.G a))) (hb : PE X y (tO X.K (evo Φ T.G b))) : PE X (.Compare x [op] [y] pos) (tO X.K (evo Φ T.G (.op o [a, b]))) :=
  PE.weak (pe_cmpR (cmp_rule g.hu h) ha hb (notSet_mark hm)) fun σ H Q => tOp_of (cmp_ok h)
/-- a test's reading of a value -/
def tTst (K : PySem.W.Frag) (f : M Opd) : TT := fun σ H Q => ∃ e F o e' d b, EnvRep K H σ e F ∧ F.Nodup ∧ f e = some (o, e') ∧ resv e' o = some d ∧ truth d = some b ∧
  ∀ H' F', EnvRep K H' σ e' F' → F'.Nodup → Stp H F H' F' → Q b H'
theorem stp_drop {H H' : Hp} {F Fd F' : List Addr} (s : Stp H F H' (Fd ++ F')) : Stp H F H' F' := s.less (fun a z => z) fun a z => List.mem_append_right _ z
theorem snd_tcmp {o : Op} {op : CmpOp} {a b : E} {x y : Expr} {pos : Pos} (g : Good T Φ k sc X) (h : cmpOf o = some op) (hm : notSet y = true) (ha : PE X x (tO X.K (evo Φ T.G a))) (hb : PE X y (tO X.K (evo Φ T.G b))) : PT X (.Compare x [op] [y] pos) (tTst X.K (evo Φ T.G (.op o [a, b]))) :=
  PT.weak (pt_cmpR (cmp_rule g.hu h) ha hb (notSet_mark hm)) fun σ H Q q => by
    obtain ⟨e, F, o', e', d, c, he, n, hf, hr, ht, hQ⟩ := q
    refine tOp_of (cmp_ok h) ⟨e, F, o', e', he, n, hf, fun v H1 Fd F1 ox he1 n1 s1 => ?_⟩
    obtain ⟨os, ds, d', _, _, h5, rfl⟩ := evo_op hf
    obtain ⟨b', rfl⟩ := cmp_bool h h5
    cases hr
    cases ht
    obtain rfl := (show Rep X.K H1 v (.imm (.bl _)) Fd from ox).bl_of
    exact ⟨_, rfl, hQ H1 F1 he1 (nd_right n1) (stp_drop s1)⟩
/-- is None -/
theorem snd_isN {a : E} {x : Expr} {j : Nat} {p pos : Pos} (ha : PE X x (tO X.K (evo Φ T.G a))) : PE X (.Compare x [.Is] [.Constant .none j p] pos) (tO X.K (evo Φ T.G (.op .isN [a]))) :=
  PE.weak (pe_cmp (pc_isN ha)) fun σ H Q => tUn_of ok_isN
theorem snd_notN {a : E} {x : Expr} {j : Nat} {p pos : Pos} (ha : PE X x (tO X.K (evo Φ T.G a))) : PE X (.Compare x [.IsNot] [.Constant .none j p] pos) (tO X.K (evo Φ T.G (.op .notN [a]))) :=
  PE.weak (pe_cmp (pc_notN ha)) fun σ H Q => tUn_of ok_notN
theorem isN_bool {ds : List D} {d : D} (hs : opSem .isN ds = some d) : ∃ b, d = .imm (.bl b) := by
  match ds, hs with
  | [x], hs => exact ⟨_, ib_inv hs⟩
theorem notN_bool {ds : List D} {d : D} (hs : opSem .notN ds = some d) : ∃ b, d = .imm (.bl b) := by
  match ds, hs with
  | [x], hs => exact ⟨_, ib_inv hs⟩
theorem snd_tisN {a : E} {x : Expr} {j : Nat} {p pos : Pos} (ha : PE X x (tO X.K (evo Φ T.G a))) : PT X (.Compare x [.Is] [.Constant .none j p] pos) (tTst X.K (evo Φ T.G (.op .isN [a]))) :=
  PT.weak (pt_cmp (pc_isN ha)) fun σ H Q q => by
    obtain ⟨e, F, o', e', d, c, he, n, hf, hr, ht, hQ⟩ := q
    refine tUn_of (Q := fun x H1 => ∃ c, x = .bl c ∧ Q c H1) ok_isN ⟨e, F, o', e', he, n, hf, fun v H1 Fd F1 ox he1 n1 s1 => ?_⟩
    obtain ⟨os, ds, d', _, _, h5, rfl⟩ := evo_op hf
    obtain ⟨b', rfl⟩ := isN_bool h5
    cases hr
    cases ht
    obtain rfl := (show Rep X.K H1 v (.imm (.bl _)) Fd from ox).bl_of
    exact ⟨_, rfl, hQ H1 F1 he1 (nd_right n1) (stp_drop s1)⟩
theorem snd_tnotN {a : E} {x : Expr} {j : Nat} {p pos : Pos} (ha : PE X x (tO X.K (evo Φ T.G a))) : PT X (.Compare x [.IsNot] [.Constant .none j p] pos) (tTst X.K (evo Φ T.G (.op .notN [a]))) :=
  PT.weak (pt_cmp (pc_notN ha)) fun σ H Q q => by
    obtain ⟨e, F, o', e', d, c, he, n, hf, hr, ht, hQ⟩ := q
    refine tUn_of (Q := fun x H1 => ∃ c, x = .bl c ∧ Q c H1) ok_notN ⟨e, F, o', e', he, n, hf, fun v H1 Fd F1 ox he1 n1 s1 => ?_⟩
    obtain ⟨os, ds, d', _, _, h5, rfl⟩ := evo_op hf
    obtain ⟨b', rfl⟩ := notN_bool h5
    cases hr
    cases ht
    obtain rfl := (show Rep X.K H1 v (.imm (.bl _)) Fd from ox).bl_of
    exact ⟨_, rfl, hQ H1 F1 he1 (nd_right n1) (stp_drop s1)⟩
/-- -x, x[i], x[::-1] -/
theorem snd_neg {a : E} {x : Expr} {pos : Pos} (ha : PE X x (tO X.K (evo Φ T.G a))) : PE X (.UnaryOp .USub x pos) (tO X.K (evo Φ T.G (.op .neg [a]))) :=
  PE.weak (pe_un un_neg ha) fun σ H Q => tUn_of ok_neg
theorem snd_idx {a b : E} {x y : Expr} {pos : Pos} (hs : notSlice y = true) (ha : PE X x (tO X.K (evo Φ T.G a))) (hb : PE X y (tO X.K (evo Φ T.G b))) : PE X (.Subscript x y pos) (tO X.K (evo Φ T.G (.op .idx [a, b]))) :=
  PE.weak (pe_ix ix_seq ha hb (plainIx_of hs)) fun σ H Q => tOp_of ok_idx
theorem snd_rev {a : E} {x st : Expr} {p3 pos : Pos} (hs : isNeg1 st = true) (ha : PE X x (tO X.K (evo Φ T.G a))) : PE X (.Subscript x (.Slice none none (some st) p3) pos) (tO X.K (evo Φ T.G (.op .rev [a]))) := by
  unfold isNeg1 at hs
  split at hs
  · exact PE.weak (pe_revD ha (po_some (pe_un un_neg pe_int)) (fun σ H Q q => ⟨1, rfl, -1, rfl, q⟩)) fun σ H Q => tUn_of ok_rev
  · exact PE.weak (pe_revD ha (po_some (pe_op op_sub pe_int pe_int)) (fun σ H Q q => ⟨0, 1, rfl, rfl, -1, rfl, q⟩)) fun σ H Q => tUn_of ok_rev
  · cases hs
/-- built-ins by name -/
theorem r2_call {r : R2} {R : List V → Hp → VK → Prop} {K : PySem.W.Frag} {o : Op} (ok : OpOk K (r2n r) (opSem o)) (h : ∀ x y H Q, r x y H Q → R [x, y] H Q) : OpOk K R (opSem o) := fun vs ds H Q d pk hs hQ => by
  obtain ⟨x, y, rfl, q⟩ := ok vs ds H Q d pk hs hQ
  exact h x y H Q q
theorem r1_call {r : V → Hp → VK → Prop} {R : List V → Hp → VK → Prop} {K : PySem.W.Frag} {o : Op} (ok : OpOk K (r1n r) (opSem o)) (h : ∀ x H Q, r x H Q → R [x] H Q) : OpOk K R (opSem o) := fun vs ds H Q d pk hs hQ => by
  obtain ⟨x, rfl, q⟩ := ok vs ds H Q d pk hs hQ
  exact h x H Q q
section
variable {o : Op} {x : Str} {id : String} {es : List E} {y : Expr} {ys : List Expr} {p pos : Pos} {r : List V → Hp → VK → Prop}
theorem snd_bltB (g : Good T Φ k sc X) (hc : CallR X (.builtin id) r) (ok : OpOk X.K r (opSem o)) (hv : bootBuiltins x = some (.builtin id)) (hx : x ∈ bltNames) (hg : glB sc x = true) (hst : (y :: ys).all notStar = true) (h : PA X (y :: ys) (tOs X.K (evos Φ T.G es))) :
    PE X (.Call (.Name x p) (y :: ys) [] pos) (tO X.K (evo Φ T.G (.op o es))) := by
  obtain ⟨g1, g2, g3⟩ := gl_of hg
  rw [List.all_cons, Bool.and_eq_true] at hst
  exact PE.weak (pe_callB hc (g.gl g1) (g.blt _ hx) hv h g3 g2 (star_of hst.1 _ _) (stars_of hst.2)) fun σ H Q => tCB_of ok
theorem snd_bltT (g : Good T Φ k sc X) (hc : CallR X (.type id) r) (ok : OpOk X.K r (opSem o)) (hv : bootBuiltins x = some (.type id)) (hx : x ∈ bltNames) (hg : glB sc x = true) (hst : (y :: ys).all notStar = true) (h : PA X (y :: ys) (tOs X.K (evos Φ T.G es))) :
    PE X (.Call (.Name x p) (y :: ys) [] pos) (tO X.K (evo Φ T.G (.op o es))) := by
  obtain ⟨g1, g2, g3⟩ := gl_of hg
  rw [List.all_cons, Bool.and_eq_true] at hst
  exact PE.weak (pe_callTy hc (g.gl g1) (g.blt _ hx) hv h g3 g2 (star_of hst.1 _ _) (stars_of hst.2)) fun σ H Q => tCB_of ok
end
theorem snd_blt {o : Op} {x : Str} {fv : Value} {n : Nat} {es : List E} {xs : List Expr} {p pos : Pos} (g : Good T Φ k sc X) (hb : bltOf o = some (x, fv, n)) (hg : glB sc x = true) (hn : xs.length = n) (hst : xs.all notStar = true) (h : PA X xs (tOs X.K (evos Φ T.G es))) :
    PE X (.Call (.Name x p) xs [] pos) (tO X.K (evo Φ T.G (.op o es))) := by
  cases xs with
  | nil => cases o <;> first | (cases hb; done) | (cases hb; cases hn)
  | cons y ys =>
    cases o <;> first | (cases hb; done) | (cases hb)
    · exact snd_bltB g call_len ok_len (by decide +kernel) (by decide) hg hst h
    · exact snd_bltT g (call_listD g.calm) ok_list (by decide +kernel) (by decide) hg hst h
    · exact snd_bltT g (call_tupD g.calm) ok_tuple (by decide +kernel) (by decide) hg hst h
    · exact snd_bltB g (call_min2 g.calm) (r2_call ok_min2 fun x y H Q ⟨i, j, e1, e2, q⟩ => ⟨i, j, by rw [e1, e2], q⟩) (by decide +kernel) (by decide) hg hst h
    · exact snd_bltB g (call_max2 g.calm) (r2_call ok_max2 fun x y H Q ⟨i, j, e1, e2, q⟩ => ⟨i, j, by rw [e1, e2], q⟩) (by decide +kernel) (by decide) hg hst h
    · exact snd_bltT g call_int1 ok_int (by decide +kernel) (by decide) hg hst h
    · exact snd_bltB g call_abs (r1_call ok_abs fun x H Q ⟨i, e1, q⟩ => ⟨i, by rw [e1], q⟩) (by decide +kernel) (by decide) hg hst h
    · exact snd_bltB g (cr_sum g.calm) ok_sum (by decide +kernel) (by decide) hg hst h
    · exact snd_bltB g (cr_allD g.calm) ok_all (by decide +kernel) (by decide) hg hst h
    · exact snd_bltB g (cr_anyD g.calm) ok_any (by decide +kernel) (by decide) hg hst h
/-! ### isinstance -/
theorem tyNm_of {t : Ty} {e : Expr} (h : tyNm sc t e = true) : ∃ x p, e = .Name x p ∧ x = (tyName t : Str) ∧ glB sc x = true := by
  unfold tyNm at h
  split at h
  · rw [Bool.and_eq_true] at h
    exact ⟨_, _, rfl, of_decide_eq_true h.1, h.2⟩
  · cases h
theorem pe_ty {t : Ty} {e : Expr} (g : Good T Φ k sc X) (h : tyNm sc t e = true) : PE X e (tC (.ty (tyName t))) := by
  obtain ⟨x, p, rfl, rfl, h2⟩ := tyNm_of h
  obtain ⟨g1, g2, g3⟩ := gl_of h2
  cases t
  · exact pe_bltn (g.gl g1) (g.blt _ (by decide)) (by decide +kernel) (show RelV (.ty "int") (.type "int") from rfl) g3 g2
  · exact pe_bltn (g.gl g1) (g.blt _ (by decide)) (by decide +kernel) (show RelV (.ty "bool") (.type "bool") from rfl) g3 g2
  · exact pe_bltn (g.gl g1) (g.blt _ (by decide)) (by decide +kernel) (show RelV (.ty "str") (.type "str") from rfl) g3 g2
  · exact pe_bltn (g.gl g1) (g.blt _ (by decide)) (by decide +kernel) (show RelV (.ty "tuple") (.type "tuple") from rfl) g3 g2
  · exact pe_bltn (g.gl g1) (g.blt _ (by decide)) (by decide +kernel) (show RelV (.ty "list") (.type "list") from rfl) g3 g2
/-- the classes' names as values -/
def tTys (ts : List Ty) : TA := fun _ H Q => Q (ts.map fun t => .ty (tyName t)) H
theorem pa_tys (g : Good T Φ k sc X) : ∀ {ts : List Ty} {es : List Expr}, tyNms sc ts es = true → PA X es (tTys ts)
  | [], [], _ => PA.weak pa_nil fun σ H Q q => q
  | t :: ts, e :: es, h => by
    unfold tyNms at h
    rw [Bool.and_eq_true] at h
    obtain ⟨x, p, rfl, _, _⟩ := tyNm_of h.1
    exact PA.weak (pa_cons (pe_ty g h.1) (pa_tys g h.2)) fun σ H Q q => q
  | [], _ :: _, h => by cases h
  | _ :: _, [], h => by cases h
theorem evo_isi {a : E} {ts : List Ty} {e e1 : En} {r : Opd} (h : evo Φ T.G (.op (.isi ts) [a]) e = some (r, e1)) : ∃ x d, evo Φ T.G a e = some (x, e1) ∧ resv e1 x = some d ∧ r = .tmp (.imm (.bl (ts.any (isTy (rd d))))) := by
  obtain ⟨os, ds, d, h1, h2, h3, rfl⟩ := evo_op h
  obtain ⟨x, h4, rfl⟩ := evos_one h1
  unfold resvs at h2
  obtain ⟨d0, h5, h6⟩ := bind_some h2
  simp only [resvs, Option.bind_some] at h6
  cases h6
  exact ⟨x, d0, h4, h5, by rw [ib_inv (show ib (ts.any (isTy (rd d0))) = some d from h3)]⟩
theorem snd_isi1 {a : E} {t : Ty} {x c : Expr} {p pos : Pos} (g : Good T Φ k sc X) (hg : glB sc "isinstance" = true) (hx : notStar x = true) (hc : tyNm sc t c = true) (ha : PE X x (tO X.K (evo Φ T.G a))) :
    PE X (.Call (.Name "isinstance" p) [x, c] [] pos) (tO X.K (evo Φ T.G (.op (.isi [t]) [a]))) := by
  obtain ⟨g1, g2, g3⟩ := gl_of hg
  obtain ⟨y, q, rfl, _, _⟩ := tyNm_of hc
  refine PE.weak (pe_callB call_isi (g.gl g1) (g.blt _ (by decide)) (by decide +kernel) (pa_cons ha (pa_cons (pe_ty g hc) pa_nil) (star_of hx _ _)) g3 g2 (star_of hx _ _) (stars_of rfl)) fun σ H Q h => ?_
  obtain ⟨e, F, o, e', he, n, hf, hQ⟩ := h
  obtain ⟨z, d, h1, h2, rfl⟩ := evo_isi hf
  refine tO_mk he n h1 fun v H1 Fd F1 ox he1 n1 s1 => ?_
  obtain ⟨F0, r0⟩ := resv_ok he1 ox h2
  refine isi_one r0 ?_
  rw [List.any_cons, List.any_nil, Bool.or_false] at hQ
  exact hQ _ H1 [] F1 (Rep.imm (.bl _)) he1 (nd_right n1) (stp_drop s1)
theorem snd_isiT {a : E} {ts : List Ty} {x : Expr} {cs : List Expr} {j : Nat} {p p2 pos : Pos} (g : Good T Φ k sc X) (hg : glB sc "isinstance" = true) (hx : notStar x = true) (hc : tyNms sc ts cs = true) (hl : ts.length ≤ 10) (ha : PE X x (tO X.K (evo Φ T.G a))) :
    PE X (.Call (.Name "isinstance" p) [x, .Tuple cs j p2] [] pos) (tO X.K (evo Φ T.G (.op (.isi ts) [a]))) := by
  obtain ⟨g1, g2, g3⟩ := gl_of hg
  refine PE.weak (pe_callB call_isiT (g.gl g1) (g.blt _ (by decide)) (by decide +kernel) (pa_cons ha (pa_cons (pe_tup (pa_tys g hc)) pa_nil) (star_of hx _ _)) g3 g2 (star_of hx _ _) (stars_of rfl)) fun σ H Q h => ?_
  obtain ⟨e, F, o, e', he, n, hf, hQ⟩ := h
  obtain ⟨z, d, h1, h2, rfl⟩ := evo_isi hf
  refine tO_mk he n h1 fun v H1 Fd F1 ox he1 n1 s1 => ?_
  obtain ⟨F0, r0⟩ := resv_ok he1 ox h2
  refine ⟨by rw [List.length_map, sizeLine_is]; omega, fun q hq => ?_⟩
  have sm := same_new (o := HO.tup (ts.map fun t => V.ty (tyName t))) hq
  refine isi_many (r0.same sm) upd_same ?_
  exact hQ _ _ [] F1 (Rep.imm (.bl _)) (he1.same sm) (nd_right n1) ((stp_drop s1).trans (Stp.of_same sm))
end
end Sw
set_option maxHeartbeats 1000000
/-! Sw, part 13: soundness, slices, truth, methods, calls. -/
namespace Sw
open PySem PySem.Spec PyProof.Rows L2
section
variable {T : Tab} {Φ : CallS} {k : Nat} {sc : Scope} {X : Cx}
/-! ### slices -/
def tOpt (K : PySem.W.Frag) (f : M (Option Int)) : TO := fun σ H Q => ∃ e F o e', EnvRep K H σ e F ∧ F.Nodup ∧ f e = some (o, e') ∧ ∀ H' F', EnvRep K H' σ e' F' → F'.Nodup → Stp H F H' F' → Q o H'
theorem PO.weak {X : Cx} {e : Option Expr} {t t' : TO} (h : PO X e t) (w : ∀ σ H Q, t' σ H Q → t σ H Q) : PO X e t' := ⟨fun pins s σ H Q I q => h.run pins s σ H Q I (w σ H Q q)⟩
theorem snd_onone : PO X none (tOpt X.K (evopt Φ T.G none)) := PO.weak po_none fun σ H Q h => by
  obtain ⟨e, F, o, e', he, n, hf, hQ⟩ := h
  simp only [evopt, Option.some.injEq, Prod.mk.injEq] at hf
  obtain ⟨rfl, rfl⟩ := hf
  exact hQ H F he n (Stp.refl H F)
theorem snd_osome {a : E} {x : Expr} (ha : PE X x (tO X.K (evo Φ T.G a))) : PO X (some x) (tOpt X.K (evopt Φ T.G (some a))) := PO.weak (po_some ha) fun σ H Q h => by
  obtain ⟨e, F, o, e', he, n, hf, hQ⟩ := h
  simp only [evopt] at hf
  obtain ⟨⟨y, e1⟩, h1, h2⟩ := bind_some hf
  obtain ⟨i, h3, h4⟩ := bind_some h2
  cases h4
  refine tO_mk he n h1 fun v H1 Fd F1 ox he1 n1 s1 => ?_
  cases y with
  | slot _ => cases h3
  | tmp d =>
    cases d with
    | lst _ => cases h3
    | imm p =>
      cases p <;> first | (cases h3; done) | skip
      cases h3
      obtain rfl := (show Rep X.K H1 v (.imm (.int _)) Fd from ox).int_of
      exact ⟨_, rfl, hQ H1 F1 he1 (nd_right n1) (stp_drop s1)⟩
theorem snd_slc {a : E} {lo hi : Option E} {x : Expr} {l h : Option Expr} {p2 pos : Pos} (ha : PE X x (tO X.K (evo Φ T.G a))) (hl : PO X l (tOpt X.K (evopt Φ T.G lo))) (hh : PO X h (tOpt X.K (evopt Φ T.G hi))) :
    PE X (.Subscript x (.Slice l h none p2) pos) (tO X.K (evo Φ T.G (.slc a lo hi))) := PE.weak (pe_slice sl_D ha hl hh) fun σ H Q h => by
  obtain ⟨e, F, o, e', he, n, hf, hQ⟩ := h
  simp only [evo] at hf
  obtain ⟨⟨y, e1⟩, h1, hf⟩ := bind_some hf
  obtain ⟨⟨li, e2⟩, h2, hf⟩ := bind_some hf
  obtain ⟨⟨ui, e3⟩, h3, hf⟩ := bind_some hf
  obtain ⟨d, h4, hf⟩ := bind_some hf
  obtain ⟨r, h5, hf⟩ := bind_some hf
  cases hf
  refine tO_mk he n h1 fun v H1 Fd F1 ox he1 n1 s1 => ⟨e1, F1, li, e2, he1, nd_right n1, h2, fun H2 F2 he2 n2 s2 => ⟨e2, F2, ui, _, he2, n2, h3, fun H3 F3 he3 n3 s3 => ?_⟩⟩
  have ox2 := ox.frame he1 n1 s2
  obtain ⟨sa, na⟩ := stp_two s1 n1 ox.mut s2 n2
  have ox3 := ox2.frame he2 na s3
  obtain ⟨sb, nb⟩ := stp_two sa na ox2.mut s3 n3
  obtain ⟨F0, r0⟩ := resv_ok he3 ox3 h4
  refine slc_ok r0 h5 fun w H4 F4 sm rp fr n4 => ?_
  obtain ⟨sc4, nc4⟩ := stp_new sb nb he3.mut sm fr n4
  exact hQ w H4 F4 F3 rp (he3.same sm) nc4 sc4
/-! ### truth -/
theorem snd_tst {a : E} {x : Expr} (hp : plainTest x = true) (ha : PE X x (tO X.K (evo Φ T.G a))) : PT X x (tTst X.K (evo Φ T.G a)) := PT.weak (pt_truth ha (plainTest_of hp _)) fun σ H Q h => by
  obtain ⟨e, F, o, e', d, b, he, n, hf, hr, ht, hQ⟩ := h
  refine tO_mk he n hf fun v H1 Fd F1 ox he1 n1 s1 => ?_
  obtain ⟨F0, r0⟩ := resv_ok he1 ox hr
  exact ⟨b, truth_ok r0 ht, hQ H1 F1 he1 (nd_right n1) (stp_drop s1)⟩
theorem evo_not {a : E} {e e1 : En} {r : Opd} (h : evo Φ T.G (.not a) e = some (r, e1)) : ∃ x d b, evo Φ T.G a e = some (x, e1) ∧ resv e1 x = some d ∧ truth d = some b ∧ r = .tmp (.imm (.bl (!b))) := by
  simp only [evo] at h
  obtain ⟨⟨x, e2⟩, h1, h⟩ := bind_some h
  obtain ⟨d, h2, h⟩ := bind_some h
  obtain ⟨b, h3, h⟩ := bind_some h
  cases h
  exact ⟨x, d, b, h1, h2, h3, rfl⟩
theorem snd_not {a : E} {x : Expr} {pos : Pos} (ha : PE X x (tO X.K (evo Φ T.G a))) : PE X (.UnaryOp .Not x pos) (tO X.K (evo Φ T.G (.not a))) := PE.weak (pe_notT ha) fun σ H Q h => by
  obtain ⟨e, F, o, e', he, n, hf, hQ⟩ := h
  obtain ⟨y, d, b, h1, h2, h3, rfl⟩ := evo_not hf
  refine tO_mk he n h1 fun v H1 Fd F1 ox he1 n1 s1 => ?_
  obtain ⟨F0, r0⟩ := resv_ok he1 ox h2
  exact ⟨b, truth_ok r0 h3, hQ _ H1 [] F1 (Rep.imm (.bl _)) he1 (nd_right n1) (stp_drop s1)⟩
theorem snd_tnot {a : E} {x : Expr} {pos : Pos} (ha : PT X x (tTst X.K (evo Φ T.G a))) : PT X (.UnaryOp .Not x pos) (tTst X.K (evo Φ T.G (.not a))) := PT.weak (pt_not ha) fun σ H Q h => by
  obtain ⟨e, F, o, e', d, b, he, n, hf, hr, ht, hQ⟩ := h
  obtain ⟨y, d2, b2, h1, h2, h3, rfl⟩ := evo_not hf
  cases hr
  cases ht
  exact ⟨e, F, y, e', d2, b2, he, n, h1, h2, h3, hQ⟩
theorem evo_ife {t a b : E} {e e2 : En} {r : Opd} (h : evo Φ T.G (.ife t a b) e = some (r, e2)) : ∃ x d k e1, evo Φ T.G t e = some (x, e1) ∧ resv e1 x = some d ∧ truth d = some k ∧ (if k then evo Φ T.G a e1 else evo Φ T.G b e1) = some (r, e2) := by
  simp only [evo] at h
  obtain ⟨⟨x, e1⟩, h1, h⟩ := bind_some h
  obtain ⟨d, h2, h⟩ := bind_some h
  obtain ⟨b, h3, h⟩ := bind_some h
  exact ⟨x, d, b, e1, h1, h2, h3, h⟩
theorem snd_ife {t a b : E} {x y z : Expr} {pos : Pos} (ht : PT X x (tTst X.K (evo Φ T.G t))) (ha : PE X y (tO X.K (evo Φ T.G a))) (hb : PE X z (tO X.K (evo Φ T.G b))) : PE X (.IfExp x y z pos) (tO X.K (evo Φ T.G (.ife t a b))) := PE.weak (pe_ifExp ht ha hb) fun σ H Q h => by
  obtain ⟨e, F, o, e', he, n, hf, hQ⟩ := h
  obtain ⟨w, d, k, e1, h1, h2, h3, h4⟩ := evo_ife hf
  refine ⟨e, F, w, e1, d, k, he, n, h1, h2, h3, fun H1 F1 he1 n1 s1 => ?_⟩
  cases k with
  | true =>
    rw [if_pos rfl] at h4 ⊢
    exact tO_mk he1 n1 h4 fun v H2 Fd F2 ox he2 n2 s2 => hQ v H2 Fd F2 ox he2 n2 (s1.trans s2)
  | false =>
    rw [if_neg Bool.false_ne_true] at h4 ⊢
    exact tO_mk he1 n1 h4 fun v H2 Fd F2 ox he2 n2 s2 => hQ v H2 Fd F2 ox he2 n2 (s1.trans s2)
/-! ### and, or -/
theorem evand_one {a : E} {e : En} : evand Φ T.G [a] e = evo Φ T.G a e := by simp only [evand]
theorem evor_one {a : E} {e : En} : evor Φ T.G [a] e = evo Φ T.G a e := by simp only [evor]
theorem evand_two {a b : E} {as : List E} {e e2 : En} {r : Opd} (h : evand Φ T.G (a :: b :: as) e = some (r, e2)) : ∃ x d k e1, evo Φ T.G a e = some (x, e1) ∧ resv e1 x = some d ∧ truth d = some k ∧ (if k then evand Φ T.G (b :: as) e1 else some (x, e1)) = some (r, e2) := by
  rw [evand] at h
  obtain ⟨⟨x, e1⟩, h1, h⟩ := bind_some h
  obtain ⟨d, h2, h⟩ := bind_some h
  obtain ⟨k, h3, h⟩ := bind_some h
  exact ⟨x, d, k, e1, h1, h2, h3, h⟩
theorem evor_two {a b : E} {as : List E} {e e2 : En} {r : Opd} (h : evor Φ T.G (a :: b :: as) e = some (r, e2)) : ∃ x d k e1, evo Φ T.G a e = some (x, e1) ∧ resv e1 x = some d ∧ truth d = some k ∧ (if k then some (x, e1) else evor Φ T.G (b :: as) e1) = some (r, e2) := by
  rw [evor] at h
  obtain ⟨⟨x, e1⟩, h1, h⟩ := bind_some h
  obtain ⟨d, h2, h⟩ := bind_some h
  obtain ⟨k, h3, h⟩ := bind_some h
  exact ⟨x, d, k, e1, h1, h2, h3, h⟩
theorem snd_and1 {a : E} {x : Expr} {pos : Pos} (ha : PE X x (tO X.K (evo Φ T.G a))) : PE X (.BoolOp .And [x] pos) (tO X.K (evand Φ T.G [a])) := PE.weak (pe_one ha) fun σ H Q h => by
  obtain ⟨e, F, o, e', he, n, hf, hQ⟩ := h
  rw [evand_one] at hf
  exact ⟨e, F, o, e', he, n, hf, hQ⟩
theorem snd_or1 {a : E} {x : Expr} {pos : Pos} (ha : PE X x (tO X.K (evo Φ T.G a))) : PE X (.BoolOp .Or [x] pos) (tO X.K (evor Φ T.G [a])) := PE.weak (pe_one ha) fun σ H Q h => by
  obtain ⟨e, F, o, e', he, n, hf, hQ⟩ := h
  rw [evor_one] at hf
  exact ⟨e, F, o, e', he, n, hf, hQ⟩
theorem snd_and2 {a b : E} {as : List E} {x y : Expr} {ys : List Expr} {pos : Pos} (ha : PE X x (tO X.K (evo Φ T.G a))) (hb : PE X (.BoolOp .And (y :: ys) pos) (tO X.K (evand Φ T.G (b :: as)))) : PE X (.BoolOp .And (x :: y :: ys) pos) (tO X.K (evand Φ T.G (a :: b :: as))) :=
  PE.weak (pe_andT ha hb) fun σ H Q h => by
    obtain ⟨e, F, o, e', he, n, hf, hQ⟩ := h
    obtain ⟨z, d, k, e1, h1, h2, h3, h4⟩ := evand_two hf
    refine tO_mk he n h1 fun v H1 Fd F1 ox he1 n1 s1 => ?_
    obtain ⟨F0, r0⟩ := resv_ok he1 ox h2
    refine ⟨k, truth_ok r0 h3, ?_⟩
    cases k with
    | true =>
      rw [if_pos rfl] at h4 ⊢
      exact tO_mk he1 (nd_right n1) h4 fun v H2 Fd F2 ox he2 n2 s2 => hQ v H2 Fd F2 ox he2 n2 ((stp_drop s1).trans s2)
    | false =>
      rw [if_neg Bool.false_ne_true] at h4 ⊢
      cases h4
      exact hQ v H1 Fd F1 ox he1 n1 s1
theorem snd_or2 {a b : E} {as : List E} {x y : Expr} {ys : List Expr} {pos : Pos} (ha : PE X x (tO X.K (evo Φ T.G a))) (hb : PE X (.BoolOp .Or (y :: ys) pos) (tO X.K (evor Φ T.G (b :: as)))) : PE X (.BoolOp .Or (x :: y :: ys) pos) (tO X.K (evor Φ T.G (a :: b :: as))) :=
  PE.weak (pe_orT ha hb) fun σ H Q h => by
    obtain ⟨e, F, o, e', he, n, hf, hQ⟩ := h
    obtain ⟨z, d, k, e1, h1, h2, h3, h4⟩ := evor_two hf
    refine tO_mk he n h1 fun v H1 Fd F1 ox he1 n1 s1 => ?_
    obtain ⟨F0, r0⟩ := resv_ok he1 ox h2
    refine ⟨k, truth_ok r0 h3, ?_⟩
    cases k with
    | false =>
      rw [if_neg Bool.false_ne_true] at h4 ⊢
      exact tO_mk he1 (nd_right n1) h4 fun v H2 Fd F2 ox he2 n2 s2 => hQ v H2 Fd F2 ox he2 n2 ((stp_drop s1).trans s2)
    | true =>
      rw [if_pos rfl] at h4 ⊢
      cases h4
      exact hQ v H1 Fd F1 ox he1 n1 s1
theorem snd_tand1 {a : E} {x : Expr} {pos : Pos} (ha : PT X x (tTst X.K (evo Φ T.G a))) : PW X (.BoolOp .And [x] pos) (tTst X.K (evand Φ T.G [a])) :=
  ⟨fun wh pins s σ H Q I h => (pw_and1 ha).run wh pins s σ H Q I (by
    obtain ⟨e, F, o, e', d, b, he, n, hf, hQ⟩ := h
    rw [evand_one] at hf
    exact ⟨e, F, o, e', d, b, he, n, hf, hQ⟩)⟩
theorem snd_tor1 {a : E} {x : Expr} {pos : Pos} (ha : PT X x (tTst X.K (evo Φ T.G a))) : PW X (.BoolOp .Or [x] pos) (tTst X.K (evor Φ T.G [a])) :=
  ⟨fun wh pins s σ H Q I h => (pw_or1 ha).run wh pins s σ H Q I (by
    obtain ⟨e, F, o, e', d, b, he, n, hf, hQ⟩ := h
    rw [evor_one] at hf
    exact ⟨e, F, o, e', d, b, he, n, hf, hQ⟩)⟩
theorem snd_tand2 {a b : E} {as : List E} {x y : Expr} {ys : List Expr} {pos : Pos} (ha : PT X x (tTst X.K (evo Φ T.G a))) (hb : PW X (.BoolOp .And (y :: ys) pos) (tTst X.K (evand Φ T.G (b :: as)))) : PW X (.BoolOp .And (x :: y :: ys) pos) (tTst X.K (evand Φ T.G (a :: b :: as))) :=
  ⟨fun wh pins s σ H Q I h => (pw_and ha hb).run wh pins s σ H Q I (by
    obtain ⟨e, F, o, e', d, c, he, n, hf, hr, ht, hQ⟩ := h
    obtain ⟨z, d0, k, e1, h1, h2, h3, h4⟩ := evand_two hf
    refine ⟨e, F, z, e1, d0, k, he, n, h1, h2, h3, fun H1 F1 he1 n1 s1 => ?_⟩
    cases k with
    | true =>
      rw [if_pos rfl] at h4 ⊢
      exact ⟨e1, F1, o, e', d, c, he1, n1, h4, hr, ht, fun H2 F2 he2 n2 s2 => hQ H2 F2 he2 n2 (s1.trans s2)⟩
    | false =>
      rw [if_neg Bool.false_ne_true] at h4 ⊢
      cases h4
      rw [h2] at hr
      cases hr
      rw [h3] at ht
      cases ht
      exact hQ H1 F1 he1 n1 s1)⟩
theorem snd_tor2 {a b : E} {as : List E} {x y : Expr} {ys : List Expr} {pos : Pos} (ha : PT X x (tTst X.K (evo Φ T.G a))) (hb : PW X (.BoolOp .Or (y :: ys) pos) (tTst X.K (evor Φ T.G (b :: as)))) : PW X (.BoolOp .Or (x :: y :: ys) pos) (tTst X.K (evor Φ T.G (a :: b :: as))) :=
  ⟨fun wh pins s σ H Q I h => (pw_or ha hb).run wh pins s σ H Q I (by
    obtain ⟨e, F, o, e', d, c, he, n, hf, hr, ht, hQ⟩ := h
    obtain ⟨z, d0, k, e1, h1, h2, h3, h4⟩ := evor_two hf
    refine ⟨e, F, z, e1, d0, k, he, n, h1, h2, h3, fun H1 F1 he1 n1 s1 => ?_⟩
    cases k with
    | false =>
      rw [if_neg Bool.false_ne_true] at h4 ⊢
      exact ⟨e1, F1, o, e', d, c, he1, n1, h4, hr, ht, fun H2 F2 he2 n2 s2 => hQ H2 F2 he2 n2 (s1.trans s2)⟩
    | true =>
      rw [if_pos rfl] at h4 ⊢
      cases h4
      rw [h2] at hr
      cases hr
      rw [h3] at ht
      cases ht
      exact hQ H1 F1 he1 n1 s1)⟩
/-! ### a < b < c -/
theorem evo_chain {o1 o2 : Op} {a b c : E} {e e3 : En} {r : Opd} (h : evo Φ T.G (.chain o1 o2 a b c) e = some (r, e3)) : ∃ x y e1 e2 ds k, evo Φ T.G a e = some (x, e1) ∧ evo Φ T.G b e1 = some (y, e2) ∧ resvs e2 [x, y] = some ds ∧ opSem o1 ds = some (.imm (.bl k)) ∧
    ((k = true ∧ ∃ z ds2 d, evo Φ T.G c e2 = some (z, e3) ∧ resvs e3 [y, z] = some ds2 ∧ opSem o2 ds2 = some d ∧ r = .tmp d) ∨ (k = false ∧ r = .tmp (.imm (.bl false)) ∧ e3 = e2)) := by
  simp only [evo] at h
  obtain ⟨⟨x, e1⟩, h1, h⟩ := bind_some h
  obtain ⟨⟨y, e2⟩, h2, h⟩ := bind_some h
  obtain ⟨ds, h3, h⟩ := bind_some h
  obtain ⟨d, h4, h⟩ := bind_some h
  split at h
  · obtain ⟨⟨z, e4⟩, h5, h⟩ := bind_some h
    obtain ⟨ds2, h6, h⟩ := bind_some h
    obtain ⟨d2, h7, h⟩ := bind_some h
    cases h
    exact ⟨x, y, e1, e2, ds, true, h1, h2, h3, h4, .inl ⟨rfl, z, ds2, d2, h5, h6, h7, rfl⟩⟩
  · cases h
    exact ⟨x, y, e1, _, ds, false, h1, h2, h3, h4, .inr ⟨rfl, rfl, rfl⟩⟩
  · cases h
theorem chain_reads {o1 o2 : Op} {p q : CmpOp} {a b c : E} {σ : L2.St} {H : Hp} {Q : VK} (hp : cmpOf o1 = some p) (hq : cmpOf o2 = some q) (h : tO X.K (evo Φ T.G (.chain o1 o2 a b c)) σ H Q) :
    tChain (rCmpO X.K o1) (rCmpO X.K o2) (tO X.K (evo Φ T.G a)) (tO X.K (evo Φ T.G b)) (tO X.K (evo Φ T.G c)) σ H Q := by
  obtain ⟨e, F, o, e', he, n, hf, hQ⟩ := h
  obtain ⟨x, y, e1, e2, ds, k, h1, h2, h3, h4, h5⟩ := evo_chain hf
  refine tO_mk he n h1 fun vx H1 Fx F1 ox he1 n1 s1 => tO_mk he1 (nd_right n1) h2 fun vy H2 Fy F2 oy he2 n2 s2 => ?_
  obtain ⟨s3, n3⟩ := stp_two s1 n1 ox.mut s2 n2
  have ox2 := ox.frame he1 n1 s2
  have pk := resvs_ok he2 (.cons ox2 (.cons oy .nil)) h3
  have cont : ∀ (z : V) (H3 : Hp) (F3 : List Addr), Same H2 H3 → Rep X.K H3 z (.imm (.bl k)) F3 → (∀ a ∈ F3, H2 a = none) → F3.Nodup → (∃ k, z = .bl k ∧ if k = true then tO X.K (evo Φ T.G c) σ H3 fun w' H4 => rCmpO X.K o2 vy w' H4 Q else Q (.bl false) H3) := fun z H3 F3 sm rp fr n4 => by
    obtain rfl := rp.bl_of
    refine ⟨k, rfl, ?_⟩
    have he3 := he2.same sm
    have sy : Stp H F H3 (Fy ++ F2) := (s3.less (fun a z => z) fun a z => List.mem_append_right _ z).trans (Stp.of_same sm)
    have oy3 : ORep X.K H3 σ vy y Fy := oy.mono (Keeps.of_same sm) (same_off sm oy.mut)
    rcases h5 with ⟨rfl, z, ds2, d, g1, g2, g3, rfl⟩ | ⟨rfl, rfl, rfl⟩
    · rw [if_pos rfl]
      refine tO_mk he3 (nd_right n2) g1 fun vz H4 Fz F4 oz he4 n4' s4 => ?_
      have oy4 := oy3.frame he3 n2 s4
      obtain ⟨s5, n5⟩ := stp_two sy n2 oy3.mut s4 n4'
      have rs : ORs X.K H4 σ [vy, vz] [y, z] (Fy ++ (Fz ++ [])) := .cons oy4 (.cons oz .nil)
      obtain ⟨u, v, e, q⟩ := ops_end (cmp_ok hq) rs he4 (by rw [List.append_nil, List.append_assoc]; exact n5) (by rw [List.append_nil, List.append_assoc]; exact s5) g2 g3 hQ
      cases e
      exact q
    · rw [if_neg Bool.false_ne_true]
      exact hQ _ H3 [] F2 (Rep.imm (.bl _)) he3 (nd_right n2) (stp_drop sy)
  obtain ⟨u, v, eq, q1⟩ := cmp_ok hp [vx, vy] ds H2 (fun z H3 => ∃ k, z = .bl k ∧ if k = true then tO X.K (evo Φ T.G c) σ H3 fun w' H4 => rCmpO X.K o2 vy w' H4 Q else Q (.bl false) H3) (.imm (.bl k)) pk h4 cont
  cases eq
  exact q1
theorem snd_chain {o1 o2 : Op} {p q : CmpOp} {a b c : E} {x y z : Expr} {pos : Pos} (g : Good T Φ k sc X) (hp : cmpOf o1 = some p) (hq : cmpOf o2 = some q) (hm : lastMarks [p, q] [y, z] = false)
    (ha : PE X x (tO X.K (evo Φ T.G a))) (hb : PE X y (tO X.K (evo Φ T.G b))) (hc : PE X z (tO X.K (evo Φ T.G c))) : PE X (.Compare x [p, q] [y, z] pos) (tO X.K (evo Φ T.G (.chain o1 o2 a b c))) :=
  PE.weak (pe_chain (cmp_rule g.hu hp) (cmp_rule g.hu hq) ha hb hc hm) fun σ H Q h => chain_reads hp hq h
theorem snd_tchain {o1 o2 : Op} {p q : CmpOp} {a b c : E} {x y z : Expr} {pos : Pos} (g : Good T Φ k sc X) (hp : cmpOf o1 = some p) (hq : cmpOf o2 = some q) (hm : lastMarks [p, q] [y, z] = false)
    (ha : PE X x (tO X.K (evo Φ T.G a))) (hb : PE X y (tO X.K (evo Φ T.G b))) (hc : PE X z (tO X.K (evo Φ T.G c))) : PT X (.Compare x [p, q] [y, z] pos) (tTst X.K (evo Φ T.G (.chain o1 o2 a b c))) :=
  PT.weak (pt_chain (cmp_rule g.hu hp) (cmp_rule g.hu hq) ha hb hc hm) fun σ H Q h => by
    obtain ⟨e, F, o', e', d, c', he, n, hf, hr, ht, hQ⟩ := h
    refine chain_reads (Q := fun x H' => ∃ k, x = .bl k ∧ Q k H') hp hq ⟨e, F, o', e', he, n, hf, fun v H1 Fd F1 ox he1 n1 s1 => ?_⟩
    have hb : ∃ b, o' = .tmp (.imm (.bl b)) := by
      obtain ⟨x, y, e1, e2, ds, k, h1, h2, h3, h4, h5⟩ := evo_chain hf
      rcases h5 with ⟨_, z, ds2, d, _, _, g3, rfl⟩ | ⟨_, rfl, _⟩
      · obtain ⟨b, rfl⟩ := cmp_bool hq g3
        exact ⟨b, rfl⟩
      · exact ⟨_, rfl⟩
    obtain ⟨b, rfl⟩ := hb
    cases hr
    cases ht
    obtain rfl := (show Rep X.K H1 v (.imm (.bl _)) Fd from ox).bl_of
    exact ⟨_, rfl, hQ H1 F1 he1 (nd_right n1) (stp_drop s1)⟩
end
end Sw
set_option maxHeartbeats 1000000
/-! Sw, part 14: soundness, methods, changes, calls. -/
namespace Sw
open PySem PySem.Spec PyProof.Rows L2
section
variable {T : Tab} {Φ : CallS} {k : Nat} {sc : Scope} {X : Cx}
/-! ### methods that read -/
def mthR (K : PySem.W.Frag) : Op → V → List V → Hp → VK → Prop
  | .join => rJoinD K
  | .index => rIndexP K
  | _ => fun _ _ _ _ => False
def mthT : Op → String
  | .join => "str"
  | _ => "list"
theorem evo_mth {o : Op} {a : E} {es : List E} {e e2 : En} {r : Opd} (h : evo Φ T.G (.mth o a es) e = some (r, e2)) : ∃ x e1 d0 xs ds d, evo Φ T.G a e = some (x, e1) ∧ resv e1 x = some d0 ∧ rcvOk o d0 = true ∧ evos Φ T.G es e1 = some (xs, e2) ∧ resvs e2 (x :: xs) = some ds ∧ opSem o ds = some d ∧ r = .tmp d := by
  simp only [evo] at h
  obtain ⟨⟨x, e1⟩, h1, h⟩ := bind_some h
  obtain ⟨d0, h2, h⟩ := bind_some h
  split at h
  · rename_i c
    obtain ⟨⟨xs, e3⟩, h3, h⟩ := bind_some h
    obtain ⟨ds, h4, h⟩ := bind_some h
    obtain ⟨d, h5, h⟩ := bind_some h
    cases h
    exact ⟨x, e1, d0, xs, ds, d, h1, h2, c, h3, h4, h5, rfl⟩
  · cases h
theorem rcv_ty {K : PySem.W.Frag} {o : Op} {d : D} {v : V} {F : List Addr} {H : Hp} (c : rcvOk o d = true) (r : Rep K H v d F) : tyV K (mthT o) v H := by
  unfold rcvOk at c
  split at c
  · obtain ⟨rfl, _⟩ := r.str_of; rfl
  · obtain ⟨a, xs, rfl, h, _, _⟩ := r.lst_of; exact .inl ⟨rfl, xs, SqL.of h⟩
  · obtain ⟨a, xs, rfl, h, _⟩ := r.flst_of; exact .inl ⟨rfl, xs, h.sql⟩
  · cases c
theorem mth_reads {o : Op} {a : E} {es : List E} {σ : L2.St} {H : Hp} {Q : VK} (ok : OpOk X.K (m2n (mthR X.K o)) (opSem o)) (h : tO X.K (evo Φ T.G (.mth o a es)) σ H Q) : tBM X.K (mthT o) (mthR X.K o) (tO X.K (evo Φ T.G a)) (tOs X.K (evos Φ T.G es)) σ H Q := by
  obtain ⟨e, F, o', e', he, n, hf, hQ⟩ := h
  obtain ⟨x, e1, d0, xs, ds, d, h1, h2, h3, h4, h5, h6, rfl⟩ := evo_mth hf
  refine tO_mk he n h1 fun v H1 Fx F1 ox he1 n1 s1 => ?_
  obtain ⟨F0, r0⟩ := resv_ok he1 ox h2
  refine ⟨rcv_ty h3 r0, e1, F1, xs, e', he1, nd_right n1, h4, fun vs H2 Fs F2 rs he2 n2 s2 => ?_⟩
  obtain ⟨s3, n3⟩ := stp_two s1 n1 ox.mut s2 n2
  have rs' : ORs X.K H2 σ (v :: vs) (x :: xs) (Fx ++ Fs) := .cons (ox.frame he1 n1 s2) rs
  obtain ⟨v', vs', e, q⟩ := ops_end ok rs' he2 (by rw [List.append_assoc]; exact n3) (by rw [List.append_assoc]; exact s3) h5 h6 hQ
  cases e
  exact q
theorem snd_mth {o : Op} {a : E} {es : List E} {x : Expr} {xs : List Expr} {nm : Str} {n : Nat} {apos cpos : Pos} (g : Good T Φ k sc X) (hm : mthOf o = some (nm, n)) (hn : xs.length = n) (hb : baseOk x = true) (hl : (apos.endLine == cpos.line) = true) (hst : xs.all notStar = true)
    (ha : PE X x (tO X.K (evo Φ T.G a))) (hs : PA X xs (tOs X.K (evos Φ T.G es))) : PE X (.Call (.Attribute x nm apos) xs [] cpos) (tO X.K (evo Φ T.G (.mth o a es))) := by
  cases xs with
  | nil => cases o <;> first | (cases hm; done) | (cases hm; cases hn)
  | cons y ys =>
    have hst' := hst
    rw [List.all_cons, Bool.and_eq_true] at hst
    have few : ∀ m : Nat, (y :: ys).length = m → m < 20 → ((backTo cpos (starEach (y :: ys) X.env)).all (fun x => !x.1) && (backToKw cpos (keywordEach [] X.env)).all (fun x => x.1.isSome)
      && decide ((y :: ys).length + ([] : List Keyword).length + (if ([] : List Keyword).isEmpty then 0 else 1) < 30)) = true := fun m h1 h2 => by
      rw [stars_all hst']
      show (true && true && decide ((y :: ys).length + 0 + 0 < 30)) = true
      rw [h1, decide_eq_true (by omega)] <;> rfl
    cases o <;> first | (cases hm; done) | (cases hm)
    · exact PE.weak (pe_bm PySem.F.plainAttrs_str PySem.F.slot_str_join PySem.F.type_str_join mt_join ha hs (base_of hb _ _ _) (few 1 hn (by decide)) hl (star_of hst.1 _ _) (stars_of hst.2)) fun σ H Q => mth_reads ok_join
    · exact PE.weak (pe_bm PySem.F.plainAttrs_list PySem.F.slot_list_index PySem.F.type_list_index (mt_indexP g.hu) ha hs (base_of hb _ _ _) (few 1 hn (by decide)) hl (star_of hst.1 _ _) (stars_of hst.2)) fun σ H Q => mth_reads ok_index
/-! ### methods that change a name's list -/
theorem evo_mut {m : MOp} {i : Nat} {es : List E} {e e2 : En} {r : Opd} (h : evo Φ T.G (.mut m i es) e = some (r, e2)) : ∃ d0 zs os e1 ds xs ys p, getE e i = some d0 ∧ listOf d0 = some zs ∧ evos Φ T.G es e = some (os, e1) ∧ resvs e1 os = some ds ∧ getE e1 i = some (.lst xs) ∧ mutSem m xs ds = some (ys, p) ∧ r = .tmp (.imm p) ∧ e2 = e1.set i (some (.lst ys)) := by
  simp only [evo] at h
  obtain ⟨d0, g0, h⟩ := bind_some h
  obtain ⟨zs, g1, h⟩ := bind_some h
  obtain ⟨⟨os, e1⟩, h1, h⟩ := bind_some h
  obtain ⟨⟨p, e3⟩, h2, h⟩ := bind_some h
  cases h
  unfold mutDo at h2
  obtain ⟨ds, h3, h2⟩ := bind_some h2
  split at h2
  · rename_i xs hx
    split at h2
    · rename_i c
      obtain ⟨⟨ys, q⟩, h4, h5⟩ := bind_some h2
      cases h5
      exact ⟨d0, zs, os, e1, ds, xs, ys, _, g0, g1, h1, h3, hx, h4, rfl, rfl⟩
    · cases h2
  · cases h2
theorem listOf_ty {K : PySem.W.Frag} {H : Hp} {d : D} {zs : List P} {v : V} {F : List Addr} (h : listOf d = some zs) (r : Rep K H v d F) : tyV K "list" v H := by
  unfold listOf at h
  split at h
  · obtain ⟨a, xs, rfl, h, _⟩ := r.flst_of; exact .inl ⟨rfl, xs, h.sql⟩
  · obtain ⟨a, xs, rfl, h, _, _⟩ := r.lst_of; exact .inl ⟨rfl, xs, SqL.of h⟩
  · cases h
theorem mut_reads {m : MOp} {i : Nat} {es : List E} {σ : L2.St} {H : Hp} {Q : VK} (h : tO X.K (evo Φ T.G (.mut m i es)) σ H Q) : tBM X.K "list" (rMutD X.K m) (tVar i) (tOs X.K (evos Φ T.G es)) σ H Q := by
  obtain ⟨e, F, o', e', he, n, hf, hQ⟩ := h
  obtain ⟨d0, zs, os, e1, ds, xs, ys, p, g0, g1, h1, h2, h3, h4, rfl, rfl⟩ := evo_mut hf
  obtain ⟨v0, Fi, q1, q2, _⟩ := he.get g0
  refine ⟨v0, q1, listOf_ty g1 q2, e, F, os, e1, he, n, h1, fun vs H2 Fs F2 rs he2 n2 s2 => ?_⟩
  obtain ⟨a, us, w1, w2, w3, w4, w5⟩ := he2.write (nd_right n2) h3
  rw [q1] at w1
  cases w1
  refine mut_ok w2 w3 (resvs_ok he2 rs h2) h4 fun v vs' r1 r2 => ?_
  obtain ⟨F3, k1, k2, k3, k4⟩ := w5 vs' ys r1
  exact hQ v _ [] F3 (Rep.imm (r2.keep (k4.keeps he2.mut))) k1 k2 ((stp_drop s2).trans k4)
theorem snd_mut {m : MOp} {i : Nat} {es : List E} {x : Str} {xs : List Expr} {p apos cpos : Pos} (g : Good T Φ k sc X) (hv : visB T.N sc i x = true) (hl : (apos.endLine == cpos.line) = true) (hn : xs.length < 20) (hst : xs.all notStar = true) (hel : es.length = xs.length)
    (hs : PA X xs (tOs X.K (evos Φ T.G es))) : PE X (.Call (.Attribute (.Name x p) (mmName m).1 apos) xs [] cpos) (tO X.K (evo Φ T.G (.mut m i es))) := by
  obtain ⟨h1, h2, h3, h4⟩ := vis_of hv
  have hx : PE X (.Name x p) (tVar i) := pe_var (i := i) (by rw [g.N]; exact h1) (by rw [g.scope]; exact h2) h3 h4
  cases xs with
  | nil =>
    cases es with
    | cons a as => cases hel
    | nil =>
      have key : ∀ {σ : L2.St} {H : Hp} {Q : VK}, tO X.K (evo Φ T.G (.mut m i [])) σ H Q → tBM0 X.K "list" (rMutD X.K m) (tVar i) σ H Q := fun {σ H Q} h => by
        obtain ⟨v, q1, q2, e, F, o, e', he, n, hf, hQ⟩ := mut_reads h
        simp only [evos, Option.some.injEq, Prod.mk.injEq] at hf
        obtain ⟨rfl, rfl⟩ := hf
        exact ⟨v, q1, q2, hQ [] H [] F .nil he n (Stp.refl H F)⟩
      cases m
      · exact PE.weak (pe_bm0 PySem.F.plainAttrs_list PySem.F.slot_list_append PySem.F.type_list_append (mt_mutD g.hu .append) hx (base_of rfl _ _ _) hl) fun σ H Q => key
      · exact PE.weak (pe_bm0 PySem.F.plainAttrs_list PySem.F.slot_list_extend PySem.F.type_list_extend (mt_mutD g.hu .extend) hx (base_of rfl _ _ _) hl) fun σ H Q => key
      · exact PE.weak (pe_bm0 PySem.F.plainAttrs_list PySem.F.slot_list_pop PySem.F.type_list_pop (mt_mutD g.hu .pop) hx (base_of rfl _ _ _) hl) fun σ H Q => key
      · exact PE.weak (pe_bm0 PySem.F.plainAttrs_list PySem.F.slot_list_pop PySem.F.type_list_pop (mt_mutD g.hu .popAt) hx (base_of rfl _ _ _) hl) fun σ H Q => key
      · exact PE.weak (pe_bm0 PySem.F.plainAttrs_list PySem.F.slot_list_remove PySem.F.type_list_remove (mt_mutD g.hu .remove) hx (base_of rfl _ _ _) hl) fun σ H Q => key
  | cons y ys =>
    have hst' := hst
    rw [List.all_cons, Bool.and_eq_true] at hst
    have few : ((backTo cpos (starEach (y :: ys) X.env)).all (fun x => !x.1) && (backToKw cpos (keywordEach [] X.env)).all (fun x => x.1.isSome)
      && decide ((y :: ys).length + ([] : List Keyword).length + (if ([] : List Keyword).isEmpty then 0 else 1) < 30)) = true := by
      rw [stars_all hst']
      show (true && true && decide ((y :: ys).length + 0 + 0 < 30)) = true
      rw [decide_eq_true (by omega)] <;> rfl
    cases m
    · exact PE.weak (pe_bm PySem.F.plainAttrs_list PySem.F.slot_list_append PySem.F.type_list_append (mt_mutD g.hu .append) hx hs (base_of rfl _ _ _) few hl (star_of hst.1 _ _) (stars_of hst.2)) fun σ H Q => mut_reads
    · exact PE.weak (pe_bm PySem.F.plainAttrs_list PySem.F.slot_list_extend PySem.F.type_list_extend (mt_mutD g.hu .extend) hx hs (base_of rfl _ _ _) few hl (star_of hst.1 _ _) (stars_of hst.2)) fun σ H Q => mut_reads
    · exact PE.weak (pe_bm PySem.F.plainAttrs_list PySem.F.slot_list_pop PySem.F.type_list_pop (mt_mutD g.hu .pop) hx hs (base_of rfl _ _ _) few hl (star_of hst.1 _ _) (stars_of hst.2)) fun σ H Q => mut_reads
    · exact PE.weak (pe_bm PySem.F.plainAttrs_list PySem.F.slot_list_pop PySem.F.type_list_pop (mt_mutD g.hu .popAt) hx hs (base_of rfl _ _ _) few hl (star_of hst.1 _ _) (stars_of hst.2)) fun σ H Q => mut_reads
    · exact PE.weak (pe_bm PySem.F.plainAttrs_list PySem.F.slot_list_remove PySem.F.type_list_remove (mt_mutD g.hu .remove) hx hs (base_of rfl _ _ _) few hl (star_of hst.1 _ _) (stars_of hst.2)) fun σ H Q => mut_reads
/-! ### calls -/
theorem set_same {σ : L2.St} {i : Nat} {v : V} (h : σ[i]? = some (some v)) : σ.set i (some v) = σ := by
  apply List.ext_getElem?
  intro j
  by_cases c : i = j
  · subst c
    rw [h, List.getElem?_set_self (List.getElem?_eq_some_iff.mp h).1]
  · rw [List.getElem?_set_ne c]
theorem resvs_noslot {e : En} {i : Nat} {z : Option D} : ∀ {os : List Opd}, noSlot os i = true → resvs (e.set i z) os = resvs e os
  | [], _ => rfl
  | o :: os, h => by
    unfold noSlot at h
    rw [List.all_cons, Bool.and_eq_true] at h
    have ih := resvs_noslot (e := e) (z := z) (os := os) h.2
    have e1 : resv (e.set i z) o = resv e o := by
      cases o with
      | tmp d => rfl
      | slot j =>
        have h1 : (j != i) = true := h.1
        exact getE_set_ne e z (fun q => by subst q; simp at h1)
    unfold resvs
    rw [e1, ih]
theorem pass_ok {K : PySem.W.Frag} {H : Hp} {σ : L2.St} {rs0 : List D} : ∀ {vs : List V} {os : List Opd} {Fs : List Addr}, ORs K H σ vs os Fs → ∀ {e e2 : En} {F : List Addr} {ds rs : List D}, EnvRep K H σ e F → (Fs ++ F).Nodup → resvs e os = some ds → back os ds rs e = some e2 →
    ∃ Gs R, Reps K H vs ds Gs ∧ (Gs ++ R).Nodup ∧ (∀ a, a ∈ Gs ++ R → a ∈ Fs ++ F) ∧ MutF H R ∧
      ∀ H' Fr, Reps K H' vs rs Fr → Keeps H H' → (∀ a ∈ R, H' a = H a) → (Fr ++ R).Nodup → ∃ F', EnvRep K H' σ e2 F' ∧ F'.Nodup ∧ ∀ a, a ∈ F' → a ∈ Fr ++ R := by
  intro vs os Fs h
  induction h with
  | nil =>
    intro e e2 F ds rs he n hr hb
    cases hr
    unfold back at hb
    cases rs with
    | cons _ _ => cases hb
    | nil =>
      cases hb
      exact ⟨[], F, .nil, n, fun a z => z, he.mut, fun H' Fr _ kp sm nf => ⟨F, he.mono kp sm, nd_right nf, fun a z => List.mem_append_right _ z⟩⟩
  | @cons v vs o os F0 G0 r _ ih =>
    intro e e2 F ds rs he n hr hb
    unfold resvs at hr
    obtain ⟨d, hr1, hr2⟩ := bind_some hr
    obtain ⟨ds', hr3, hr4⟩ := bind_some hr2
    cases hr4
    have nG : (G0 ++ F).Nodup := by rw [List.append_assoc] at n; exact nd_right n
    -- the operand leaves the names as they are
    have plain : ∀ {Fd : List Addr}, Rep K H v d Fd → (∀ a ∈ Fd, a ∈ F0) → Fd.Nodup → (∃ r0 rs', rs = r0 :: rs' ∧ back os ds' rs' e = some e2) → ∃ Gs R, Reps K H (v :: vs) (d :: ds') Gs ∧ (Gs ++ R).Nodup ∧ (∀ a, a ∈ Gs ++ R → a ∈ (F0 ++ G0) ++ F) ∧ MutF H R ∧
      ∀ H' Fr, Reps K H' (v :: vs) rs Fr → Keeps H H' → (∀ a ∈ R, H' a = H a) → (Fr ++ R).Nodup → ∃ F', EnvRep K H' σ e2 F' ∧ F'.Nodup ∧ ∀ a, a ∈ F' → a ∈ Fr ++ R := by
      intro Fd rd sub nd ⟨r0, rs', er, hb'⟩
      subst er
      obtain ⟨Gs, R, g1, g2, g3, g4, g5⟩ := ih he nG hr3 hb'
      have off : ∀ a ∈ Fd, a ∉ Gs ++ R := fun a z y => by
        have n2 := n
        rw [List.append_assoc] at n2
        exact nd_off n2 a (sub a z) (g3 a y)
      refine ⟨Fd ++ Gs, R, .cons rd g1, ?_, fun a z => ?_, g4, fun H' Fr q1 q2 q3 q4 => ?_⟩
      · rw [List.append_assoc]
        exact nd_mk nd g2 off
      · rw [List.append_assoc] at z ⊢
        rcases List.mem_append.mp z with z | z
        · exact List.mem_append_left _ (sub a z)
        · exact List.mem_append_right _ (g3 a z)
      · cases q1 with
        | @cons _ _ _ _ Fv Ft p1 p2 =>
          rw [List.append_assoc] at q4
          obtain ⟨F', k1, k2, k3⟩ := g5 H' Ft p2 q2 q3 (nd_right q4)
          exact ⟨F', k1, k2, fun a z => by rw [List.append_assoc]; exact List.mem_append_right _ (k3 a z)⟩
    unfold back at hb
    cases rs with
    | nil => cases hb
    | cons r0 rs' =>
      cases o with
      | tmp d' =>
        cases hr1
        exact plain (show Rep K H v d F0 from r) (fun a z => z) (by rw [List.append_assoc] at n; exact nd_left n) ⟨r0, rs', rfl, hb⟩
      | slot i =>
        obtain ⟨hi, ef⟩ := (show σ[i]? = some (some v) ∧ F0 = [] from r)
        subst ef
        have hr1 : getE e i = some d := hr1
        cases d with
        | imm p =>
          obtain ⟨v', Fi, w1, w2, _⟩ := he.get hr1
          rw [hi] at w1
          cases w1
          obtain ⟨w3, rfl⟩ := w2.imm_of
          exact plain (Rep.imm w3) (fun a z => nomatch z) List.nodup_nil ⟨r0, rs', rfl, hb⟩
        | lst xs =>
          have hb : (if noSlot os i then (back os ds' rs' (e.set i none)).bind fun e' => some (e'.set i (some r0)) else none) = some e2 := hb
          split at hb
          · rename_i ns
            obtain ⟨e', hb1, hb2⟩ := bind_some hb
            cases hb2
            obtain ⟨v', Fi, F1, w1, w2, w3, w4, w5⟩ := he.out hr1
            rw [hi] at w1
            cases w1
            have n5 := w5 (nd_right nG)
            have nG1 : (G0 ++ F1).Nodup := nd_mk (nd_left nG) (nd_right n5) fun a z y => nd_off nG a z (w4 a (List.mem_append_right _ y))
            obtain ⟨Gs, R, g1, g2, g3, g4, g5⟩ := ih w3 nG1 (by rw [resvs_noslot ns]; exact hr3) hb1
            have off : ∀ a ∈ Fi, a ∉ Gs ++ R := fun a z y => by
              rcases List.mem_append.mp (g3 a y) with y | y
              · exact nd_off nG a y (w4 a (List.mem_append_left _ z))
              · exact nd_off n5 a z y
            refine ⟨Fi ++ Gs, R, .cons w2 g1, ?_, fun a z => ?_, g4, fun H' Fr q1 q2 q3 q4 => ?_⟩
            · rw [List.append_assoc]
              exact nd_mk (nd_left n5) g2 off
            · rw [List.append_assoc] at z
              show a ∈ G0 ++ F
              rcases List.mem_append.mp z with z | z
              · exact List.mem_append_right _ (w4 a (List.mem_append_left _ z))
              · rcases List.mem_append.mp (g3 a z) with z | z
                · exact List.mem_append_left _ z
                · exact List.mem_append_right _ (w4 a (List.mem_append_right _ z))
            · cases q1 with
              | @cons _ _ _ _ Fv Ft p1 p2 =>
                rw [List.append_assoc] at q4
                obtain ⟨F', k1, k2, k3⟩ := g5 H' Ft p2 q2 q3 (nd_right q4)
                obtain ⟨F2, m1, m2, m3⟩ := k1.setD p1 i
                rw [set_same hi] at m1
                refine ⟨F2, m1, m3 (nd_mk (nd_left q4) k2 fun a z y => nd_off q4 a z (k3 a y)), fun a z => ?_⟩
                rw [List.append_assoc]
                rcases m2 a z with z | z
                · exact List.mem_append_left _ z
                · exact List.mem_append_right _ (k3 a z)
          · cases hb
theorem evo_call {f : Nat} {es : List E} {e e2 : En} {r : Opd} (h : evo Φ T.G (.call f es) e = some (r, e2)) : ∃ os e1 ds d rs, evos Φ T.G es e = some (os, e1) ∧ resvs e1 os = some ds ∧ Φ f ds = some (d, rs) ∧ back os ds rs e1 = some e2 ∧ r = .tmp d := by
  simp only [evo] at h
  obtain ⟨⟨os, e1⟩, h1, h⟩ := bind_some h
  obtain ⟨ds, h2, h⟩ := bind_some h
  obtain ⟨⟨d, rs⟩, h3, h⟩ := bind_some h
  obtain ⟨e3, h4, h⟩ := bind_some h
  cases h
  exact ⟨os, e1, ds, d, rs, h1, h2, h3, h4, rfl⟩
theorem call_reads {f : Nat} {es : List E} {σ : L2.St} {H : Hp} {Q : VK} (E0 : XK) (h : tO X.K (evo Φ T.G (.call f es)) σ H Q) : tCall (spD X.K (Φ f)) [] E0 (tOs X.K (evos Φ T.G es)) σ H Q := by
  obtain ⟨e, F, o', e', he, n, hf, hQ⟩ := h
  obtain ⟨os, e1, ds, d, rs, h1, h2, h3, h4, rfl⟩ := evo_call hf
  refine ⟨e, F, os, e1, he, n, h1, fun vs H2 Fs F2 rp he2 n2 s2 => ?_⟩
  obtain ⟨Gs, R, g1, g2, g3, g4, g5⟩ := pass_ok (rs0 := []) rp he2 n2 h2 h4
  show spD X.K (Φ f) (vs ++ []) H2 Q E0
  rw [List.append_nil]
  refine ⟨ds, Gs, d, rs, g1, nd_left g2, h3, fun v H' Fd Fr r1 r2 n3 s3 => ?_⟩
  have kp := s3.keeps g1.mut
  have nR : ∀ a ∈ R, a ∉ Gs := fun a z y => nd_off g2 a y z
  have ap := s3.apart g4 nR
  have nFr : (Fr ++ R).Nodup := nd_mk (nd_right n3) (nd_right g2) fun a z y => ap a y (List.mem_append_right _ z)
  obtain ⟨F', k1, k2, k3⟩ := g5 H' Fr r2 kp (s3.off g4 nR) nFr
  refine hQ v H' Fd F' r1 k1 (nd_mk (nd_left n3) k2 fun a z y => ?_) ?_
  · rcases List.mem_append.mp (k3 a y) with y | y
    · exact nd_off n3 a z y
    · exact ap a y (List.mem_append_left _ z)
  · refine s2.trans ((s3.frame R).less g3 fun a z => ?_)
    rw [List.append_assoc]
    rcases List.mem_append.mp z with z | z
    · exact List.mem_append_left _ z
    · exact List.mem_append_right _ (k3 a z)
theorem snd_call {f n : Nat} {es : List E} {x : Str} {xs : List Expr} {p pos : Pos} (g : Good T Φ k sc X) (hg : glB sc x = true) (hf : T.fns[f]? = some (x, n)) (hst : xs.all notStar = true) (hs : PA X xs (tOs X.K (evos Φ T.G es))) (hl : es.length = xs.length) :
    PE X (.Call (.Name x p) xs [] pos) (tO X.K (evo Φ T.G (.call f es))) := by
  obtain ⟨g1, g2, g3⟩ := gl_of hg
  obtain ⟨fa, fd, ps, q1, q2, q3, q4, q5⟩ := g.fns f x n hf
  cases xs with
  | nil =>
    cases es with
    | cons _ _ => cases hl
    | nil =>
      refine PE.weak (pe_call0 (E := fun _ _ _ => False) q5 g.room (g.gl g1) q1 q2 q3 .nil (fun _ _ _ _ _ _ _ h => h.elim) g2) fun σ H Q h => ?_
      obtain ⟨e, F, o, e', he, n, hf, hQ⟩ := call_reads (fun _ _ _ => False) h
      simp only [evos, Option.some.injEq, Prod.mk.injEq] at hf
      obtain ⟨rfl, rfl⟩ := hf
      exact hQ [] H [] F .nil he n (Stp.refl H F)
  | cons y ys =>
    rw [List.all_cons, Bool.and_eq_true] at hst
    exact PE.weak (pe_call (E := fun _ _ _ => False) q5 g.room (g.gl g1) q1 q2 q3 .nil (fun _ _ _ _ _ _ _ h => h.elim) hs g2 (star_of hst.1 _ _) (stars_of hst.2)) fun σ H Q h => call_reads _ h
/-! ### a list that becomes data -/
theorem evo_frz {a : E} {e e2 : En} {r : Opd} (h : evo Φ T.G (.frz a) e = some (r, e2)) : ∃ x e1 p, evo Φ T.G a e = some (x, e1) ∧ frzSem x e1 = some (p, e2) ∧ r = .tmp (.imm p) := by
  simp only [evo] at h
  obtain ⟨⟨x, e1⟩, h1, h⟩ := bind_some h
  obtain ⟨⟨p, e3⟩, h2, h⟩ := bind_some h
  cases h
  exact ⟨x, e1, p, h1, h2, rfl⟩
theorem lock_stp {H : Hp} {F G : List Addr} {a : Addr} {o : HO} (ha : a ∈ F) (h : ∀ b ∈ G, b ∈ F) : Stp H F (upd H a o) G :=
  ⟨fun b o e z => by rw [upd_ne (fun y : b = a => z (by rw [y]; exact ha))]; exact e, fun b z => .inl (h b z)⟩
theorem snd_frz {a : E} {x : Expr} (ha : PE X x (tO X.K (evo Φ T.G a))) : PE X x (tO X.K (evo Φ T.G (.frz a))) := by
  refine ⟨fun pins s σ H Q I h => ?_⟩
  obtain ⟨e, F, o', e', he, n, hf, hQ⟩ := h
  obtain ⟨z, e1, p, h1, h2, rfl⟩ := evo_frz hf
  refine thn (ha.run pins s σ H (fun v H1 => ∃ Fd F1, ORep X.K H1 σ v z Fd ∧ EnvRep X.K H1 σ e1 F1 ∧ (Fd ++ F1).Nodup ∧ Stp H F H1 (Fd ++ F1)) I
    (tO_mk he n h1 fun v H1 Fd F1 ox he1 n1 s1 => ⟨Fd, F1, ox, he1, n1, s1⟩)) fun u s1 ⟨v, H1, I1, rv, Fd, F1, ox, he1, n1, st1⟩ => ?_
  unfold frzSem at h2
  split at h2
  · cases h2
    exact ⟨v, H1, I1, rv, hQ v H1 Fd F1 ox he1 n1 st1⟩
  · cases h2
    obtain ⟨b, vs, rfl, q1, q2, rfl⟩ := (show Rep X.K H1 v (.lst _) Fd from ox).lst_of
    obtain ⟨od, I2⟩ := I1.lock q1 trivial
    have st2 : Stp H1 ([b] ++ F1) (upd H1 b (.frz od (.lst vs))) F1 := lock_stp (List.mem_append_left _ (List.mem_singleton.mpr rfl)) fun c z => List.mem_append_right _ z
    have kp := st2.keeps (F := [b] ++ F1) ((Rep.mut (show Rep X.K H1 (.ref b) (.lst _) [b] from ox)).append he1.mut)
    refine ⟨_, _, I2, rv, hQ _ _ [] F1 (Rep.imm (.lst (.inl ⟨od, upd_same⟩) (q2.keep kp))) (he1.mono kp fun c z => upd_ne fun y => ?_) (nd_right n1) (st1.trans st2)⟩
    subst y
    exact nd_off n1 c (List.mem_singleton.mpr rfl) z
  · obtain ⟨hi, ef⟩ := (show σ[_]? = some (some v) ∧ Fd = [] from ox)
    subst ef
    split at h2
    · rename_i p' hp
      cases h2
      obtain ⟨v', Fi, w1, w2, _⟩ := he1.get hp
      rw [hi] at w1
      cases w1
      obtain ⟨w3, rfl⟩ := w2.imm_of
      exact ⟨v, H1, I1, rv, hQ v H1 [] F1 (Rep.imm w3) he1 n1 st1⟩
    · rename_i ps hp
      cases h2
      obtain ⟨v', Fi, F', w1, w2, w3, w4, w5⟩ := he1.out hp
      rw [hi] at w1
      cases w1
      obtain ⟨b, vs, rfl, q1, q2, rfl⟩ := w2.lst_of
      obtain ⟨od, I2⟩ := I1.lock q1 trivial
      have n5 := w5 n1
      have bF : b ∈ F1 := w4 b (List.mem_append_left _ (List.mem_singleton.mpr rfl))
      have st2 : Stp H1 F1 (upd H1 b (.frz od (.lst vs))) F' := lock_stp bF fun c z => w4 c (List.mem_append_right _ z)
      have kp := st2.keeps he1.mut
      have he2 : EnvRep X.K (upd H1 b (.frz od (.lst vs))) σ (e1.set _ none) F' := w3.mono kp fun c z => upd_ne fun y => by
        subst y
        exact nd_off n5 c (List.mem_singleton.mpr rfl) z
      have rp : Rep X.K (upd H1 b (.frz od (.lst vs))) (.ref b) (.imm (.lst ps)) [] := Rep.imm (.lst (.inl ⟨od, upd_same⟩) (q2.keep kp))
      obtain ⟨F2, k1, k2, k3⟩ := he2.into hi rp
      have nd2 : F2.Nodup := k3 (nd_right n5)
      have sub : ∀ c, c ∈ F2 → c ∈ F' := fun c z => (k2 c).mp z
      exact ⟨_, _, I2, rv, hQ _ _ [] F2 rp k1 nd2 (st1.trans (st2.less (fun c z => z) sub))⟩
    · cases h2
end
end Sw
set_option maxHeartbeats 1000000
/-! Sw, part 14c: enumerate and zip of lists, tuples, texts. -/
namespace Sw
open PySem PySem.Spec PyProof.Rows L2
/-- what is walked -/
inductive SK where
  | l (a : Addr) | t (a : Addr) | s (x : Str)
def SK.val : SK → V
  | .l a => .ref a
  | .t a => .ref a
  | .s x => .str x
def chV (x : Str) : List V := x.cps.toList.map fun c => V.str ⟨#[c]⟩
def SK.sq (K : PySem.W.Frag) (H : Hp) : SK → List V → Prop
  | .l a, xs => SqL K H a xs
  | .t a, xs => SqT K H a xs
  | .s x, xs => xs = chV x
def SK.fp : SK → List Addr
  | .l a => [a]
  | .t a => [a]
  | .s _ => []
def SK.st (h : Heap) (it : Addr) (i : Nat) : SK → Prop
  | .l a => h.IsListIter it a i
  | .t a => h.IsTupleIter it a i
  | .s x => ∃ t, h.IsStrIter it (strIterType x) x t i
theorem SK.st_at {k : SK} {h h' : Heap} {it : Addr} {i : Nat} (s : k.st h it i) (q : ∀ o, h.get? it = some o → h'.get? it = some o) : k.st h' it i := by
  cases k with
  | l a => exact Heap.IsListIter.at s q
  | t a => exact Heap.IsTupleIter.at s q
  | s x =>
    obtain ⟨t, o, ho, r⟩ := s
    exact ⟨t, o, q o ho, r⟩
theorem SK.st_obj {k : SK} {h : Heap} {it : Addr} {i : Nat} (s : k.st h it i) : ∃ o, h.get? it = some o ∧ ∀ v, o.data ≠ .cell v := by
  cases k with
  | l a => obtain ⟨o, ho, _, d⟩ := s; exact ⟨o, ho, fun v q => by rw [d] at q; cases q⟩
  | t a => obtain ⟨o, ho, _, d⟩ := s; exact ⟨o, ho, fun v q => by rw [d] at q; cases q⟩
  | s x => obtain ⟨t, o, ho, _, d⟩ := s; exact ⟨o, ho, fun v q => by rw [d] at q; cases q⟩
theorem vals_at {xs : List V} {us : List Value} (r : Vals xs us) {j : Nat} {v : Value} (h : us[j]? = some v) : ∃ x, xs[j]? = some x ∧ RelV x v := by
  have hl := r.length
  have hj := (List.getElem?_eq_some_iff.mp h).1
  have hx : xs[j]? = some (xs[j]'(by omega)) := List.getElem?_eq_getElem (by omega)
  obtain ⟨u, hu, ru⟩ := r.get hx
  rw [h] at hu
  cases hu
  exact ⟨_, hx, ru⟩
section
variable {X : Cx} {pins : List (Addr × Obj)} {σ : L2.St} {H : Hp} {s : Shared}
theorem SK.inj {k : SK} {xs ys : List V} (I : Inv X pins σ H s) (h : k.sq X.K H xs) (h' : k.sq X.K H ys) : xs = ys := by
  cases k with
  | l a => exact I.list_inj h h'
  | t a => exact I.tuple_inj h h'
  | s x => exact Eq.trans h (Eq.symm h')
theorem SK.dr (I : Inv X pins σ H s) (hc : X.calm = true) {k : SK} {xs : List V} {it : Addr} {i : Nat} (hsq : k.sq X.K H xs) (hat : k.st s.heap it i) (hf : it ∉ k.fp) :
    ∃ (n : Nat) (P : Nat → Value → Prop) (St : Nat → Heap → Prop), Draws X.prog X.w X.A.in1 it (it :: k.fp) n P St ∧ n = xs.length ∧ St i s.heap ∧ (∀ j v, P j v → ∃ x, xs[j]? = some x ∧ RelV x v) ∧ ∀ j h', St j h' → k.st h' it j := by
  have hh : X.A.in1.handled = none := I.ok.hd hc
  cases k with
  | l a =>
    obtain ⟨its, rv, p, hz⟩ := I.list hsq
    have hl := rv.length
    exact ⟨_, _, _, Draws.list hh it a (fun e => hf (by simp [SK.fp, e])) its.toArray, by simp [hl], ⟨hat, p.isList⟩, fun j v q => vals_at rv (by simpa using q), fun j h' q => q.1⟩
  | t a =>
    obtain ⟨its, rv, p, hz⟩ := I.tuple hsq
    have hl := rv.length
    exact ⟨_, _, _, Draws.tuple hh it a (fun e => hf (by simp [SK.fp, e])) its.toArray, by simp [hl], ⟨hat, p⟩, fun j v q => vals_at rv (by simpa using q), fun j h' q => q.1⟩
  | s x =>
    obtain ⟨t, hat⟩ := hat
    have hsq : xs = chV x := hsq
    refine ⟨_, _, _, Draws.text hh it x t, by rw [hsq]; simp [chV], hat, fun j v q => ?_, fun j h' q => ⟨t, q⟩⟩
    obtain ⟨c, u, h1, rfl⟩ := q
    refine ⟨.str ⟨#[c]⟩, ?_, u, rfl⟩
    rw [hsq]
    unfold chV
    rw [List.getElem?_map, Array.getElem?_toList, h1] <;> rfl
/-- how it begins -/
theorem SK.beg (I : Inv X pins σ H s) {k : SK} {xs : List V} {v : Value} (hsq : k.sq X.K H xs) (hv : RelV k.val v) : ∃ (o : Obj) (Hq : Heap → Prop), Begins v o Hq ∧ Hq s.heap ∧ (∀ a ∈ k.fp, a < s.heap.objs.size) ∧ ∀ h' it, h'.get? it = some o → k.st h' it 0 := by
  cases k with
  | l a =>
    have hv : v = .ref a := hv
    subst hv
    obtain ⟨its, rv, p, hz⟩ := I.list hsq
    refine ⟨_, _, begins_list a its.toArray, p.isList, fun b hb => ?_, fun h' it q => ⟨_, q, rfl, rfl⟩⟩
    have e : b = a := by simpa [SK.fp] using hb
    rw [e]
    exact p.lt
  | t a =>
    have hv : v = .ref a := hv
    subst hv
    obtain ⟨its, rv, p, hz⟩ := I.tuple hsq
    refine ⟨_, _, begins_tuple a its.toArray, p, fun b hb => ?_, fun h' it q => ⟨_, q, rfl, rfl⟩⟩
    have e : b = a := by simpa [SK.fp] using hb
    rw [e]
    exact p.lt
  | s x =>
    obtain ⟨t, rfl⟩ := hv
    refine ⟨_, _, begins_text x t, trivial, fun b hb => ?_, fun h' it q => ⟨t, _, q, rfl, rfl⟩⟩
    have hb : b ∈ ([] : List Addr) := hb
    cases hb
end
/-! ### enumerate -/
theorem new_enum_g {v : Value} {o : Obj} {Hq : Heap → Prop} (B : Begins v o Hq) :
    Meets (Builtin.«enumerate.__new__» ⟨[.type "enumerate", v], []⟩) (fun _ R s => Hq s.heap ∧
      R (.ok (.ret (.ref (s.heap.push o).objs.size))) { s with heap := (s.heap.push o).push { cls := .type "enumerate", data := .fields #[.none, .bool false, .ref s.heap.objs.size, rawInt 0, .none, .none] } }) :=
  .of_wp fun prog w A R s h => by
    obtain ⟨hp, g, d, tk, os⟩ := s
    obtain ⟨h1, h⟩ := h
    have sub0 := sub_enumerate
    have q1 : ∀ {A' : Around} {E : Value → Shared → Prop} {Q : Value → Shared → Prop}, Q (.ref hp.objs.size) ⟨hp.push o, g, d, tk, os⟩ → wpAny (model prog w) A' (pyIter v) Q E ⟨hp, g, d, tk, os⟩ :=
      fun q => B.iter prog w _ _ ⟨hp, g, d, tk, os⟩ _ h1 q
    wp_walk using q1
    refine wpAny_stack_any fun st => wpAny_pure ?_
    split
    · rename_i c _ _ _ _ _
      cases (c == Value.type "enumerate")
      · wp_walk using q1
        exact ⟨_, rfl, h⟩
      · wp_walk using q1
        exact ⟨_, rfl, h⟩
    · wp_walk using q1
      exact ⟨_, rfl, h⟩
section
variable {prog : Program} {w : World} {A : Around} {E : Value → Shared → Prop} {s : Shared}
theorem call_enum_g {v : Value} {o : Obj} {Hq : Heap → Prop} {Q : Value → Shared → Prop} (B : Begins v o Hq) (h1 : Hq s.heap)
    (h : ∀ h', IsEnum h' (s.heap.objs.size + 1) s.heap.objs.size 0 .none → h'.get? s.heap.objs.size = some o → h'.objs.size = s.heap.objs.size + 2 →
      (∀ b o, s.heap.get? b = some o → h'.get? b = some o) → Q (.ref (s.heap.objs.size + 1)) { s with heap := h' }) :
    wpAny (model prog w) A (call (.type "enumerate") [v]) Q E s := by
  refine callType_new F.called_enumerate (by decide) (F.typeCall_enumerate_1 _) (F.newCall_enumerate_1 _) (fun obj => F.args_object_init_2 obj _) F.entry_enumerate_new
    (new_enum_g B) ⟨h1, ?_⟩
  have hz : (s.heap.push o).objs.size = s.heap.objs.size + 1 := Heap.size_push ..
  show _ ∧ _
  rw [hz]
  have he : IsEnum ((s.heap.push o).push { cls := .type "enumerate", data := .fields #[.none, .bool false, .ref s.heap.objs.size, rawInt 0, .none, .none] }) (s.heap.objs.size + 1) s.heap.objs.size 0 .none := by
    have := Heap.get?_push_size (s.heap.push o) (o := { cls := .type "enumerate", data := .fields #[.none, .bool false, .ref s.heap.objs.size, rawInt 0, .none, .none] }) rfl
    rw [hz] at this; exact this
  refine ⟨⟨_, he, rfl⟩, h _ he (Heap.get?_push_of_some _ (Heap.get?_push_size _ B.free)) (by rw [Heap.size_push, hz]) fun b o x => Heap.get?_push_of_some _ (Heap.get?_push_of_some _ x)⟩
end
/-- each item in a new pair -/
def IteG (K : PySem.W.Frag) (k : SK) : It :=
  ⟨fun i H => ∃ (xs : List V) (x : V), k.sq K H xs ∧ xs[i]? = some x, fun i H v H' => ∃ T x, v = .ref T ∧ H T = none ∧ H' = upd H T (.tup [.int (i : Nat), x]) ∧ ∀ xs, k.sq K H xs → xs[i]? = some x, fun i H => ∃ xs : List V, k.sq K H xs ∧ xs.length = i⟩
theorem turn_enumG {P : Program} {w : World} {K : PySem.W.Frag} {elts : List Expr} {kk : Nat} {tpos : Pos} (k : SK) (e it : Addr) (hne : e ≠ it) (hef : e ∉ k.fp) (hif : it ∉ k.fp) :
    Turn P w K (.Tuple elts kk tpos) (IteG K k) [e, it] e (fun i h => (∃ old, IsEnum h e it ((i : Nat) : Int) old) ∧ k.st h it i) where
  mem := by simp
  obj := fun i h st b hb => by
    obtain ⟨⟨old, he⟩, st⟩ := st
    have e' : b = e ∨ b = it := by simpa using hb
    rcases e' with z | z
    · rw [z]; exact ⟨_, he, fun v q => nomatch q⟩
    · rw [z]; exact SK.st_obj st
  keep := fun i h h' st q => let ⟨⟨old, he⟩, hi⟩ := st; ⟨⟨old, q e (by simp) _ he⟩, SK.st_at hi fun o z => q it (by simp) o z⟩
  item := by
    intro X hP hw hK hc i pins s σ H E I hf st hg
    subst hP hw hK
    obtain ⟨⟨old, he⟩, hit⟩ := st
    obtain ⟨xs, x, hq, hx⟩ := hg
    obtain ⟨n, Pd, St, D, rfl, hst, hP, hS⟩ := SK.dr I hc hq hit hif
    have hel : e < s.heap.objs.size := Heap.lt_size he
    have hil : it < s.heap.objs.size := by obtain ⟨_, q, _⟩ := SK.st_obj hit; exact Heap.lt_size q
    have hlt : i < xs.length := (List.getElem?_eq_some_iff.mp hx).1
    refine wpAny_pyNext_enum_itemD D he hst hlt hne (by simp [hne, hef]) fun u h' tk hy ho hit' hT hsz hk => ?_
    obtain ⟨x', hx', ru⟩ := hP i u hy
    rw [hx] at hx'
    cases hx'
    refine ⟨_, rfl, wpAny_letOwnedTupleGo_enum (s := { s with heap := h', toks := tk + 1 }) ho fun h'' he' sb => ?_⟩
    have hT2 : h''.get? s.heap.objs.size = some { cls := .type "tuple", data := .seq #[.int i tk, u] } := (sb.2 _ (Nat.ne_of_gt hel)).trans hT
    have new : ObjOk X.prog X.w (upd H s.heap.objs.size (.tup [.int (i : Nat), x])) h'' s.heap.objs.size (.tup [.int (i : Nat), x]) :=
      ⟨by show 2 ≤ sizeLine; decide, [.int i tk, u], .cons ⟨_, rfl⟩ (.cons ru .nil), ⟨_, hT2, rfl, _, rfl⟩⟩
    have I1 : Inv X pins σ (upd H s.heap.objs.size (.tup [.int (i : Nat), x])) { s with heap := h'', toks := tk + 1 } :=
      I.turnedNew (ch := [e, it]) (fun b ob hb q => (sb.2 b (fun z => hb (by simp [z]))).trans (hk b ob (fun z => hb (by simp [z])) (fun z => hb (by simp [z])) q)) hf (Nat.le_refl _) new
    refine ⟨.ref s.heap.objs.size, _, I1, rfl, ⟨_, x, rfl, I.hok.fresh (Nat.le_refl _), rfl, fun ys hy => by rw [SK.inj I hy hq]; exact hx⟩, ⟨⟨u, ?_⟩, SK.st_at (hS _ _ hit') fun o q => (sb.2 it (Ne.symm hne)).trans q⟩, fun b hb => ?_⟩
    · have e1 : ((i + 1 : Nat) : Int) = (i : Int) + 1 := by omega
      rw [e1]; exact he'
    · have hb' : b < s.heap.objs.size := by
        have e' : b = e ∨ b = it := by simpa using hb
        rcases e' with z | z
        · rw [z]; exact hel
        · rw [z]; exact hil
      rw [upd_ne (Nat.ne_of_lt hb')]
      exact (hf b hb).1
  done := by
    intro X hP hw hK hc i pins s σ H E I hf st hg
    subst hP hw hK
    obtain ⟨⟨old, he⟩, hit⟩ := st
    obtain ⟨xs, hq, rfl⟩ := hg
    obtain ⟨n, Pd, St, D, rfl, hst, hP, hS⟩ := SK.dr I hc hq hit hif
    obtain ⟨f0, f1, f2, f3, f4, f5⟩ := hf it (by simp)
    refine wpAny_pyNext_enum_endD D he hst fun h' eb => ⟨rfl, I.turned (t' := s.toks) (fun b o hb q => eb b o hb q) f0 f1 f3 f4 f5⟩
  self := fun A i s Q E st h => let ⟨⟨_, he⟩, _⟩ := st; wpAny_pyIter_enum he h
def iEnumG (K : PySem.W.Frag) (ta : TA) : TI := fun σ H R => ta σ H fun vs H1 => ∃ k xs, vs = [SK.val k] ∧ k.sq K H1 xs ∧ R (IteG K k) H1
theorem pi_enumG {X : Cx} {e : Expr} {ta : TA} {p pos tpos : Pos} {elts : List Expr} {kk : Nat} (hg : Gl X "enumerate") (hm : X.mg "enumerate" = none) (ha : PA X [e] ta) (hs : starEach [e] X.env = [(false, eval e X.env)] := by rfl) :
    PI X (.Tuple elts kk tpos) (.Call (.Name "enumerate" p) [e] [] pos) (iEnumG X.K ta) := by
  refine ⟨fun pins s σ H R I h => ?_⟩
  refine Call_ (ld_blt I hg hm boot_enumerate (PyProof.Rows.callWith_type1 (thn (ha.run pos pins s σ H _ I h) fun us s1 ⟨vs, H1, I1, r1, q1⟩ => ?_) hs rfl))
  obtain ⟨k, xs, ex, hq, q⟩ := q1
  subst ex
  have fp : ∀ b ∈ [s1.heap.objs.size + 1, s1.heap.objs.size], FpOk X pins H1 b := fun b hb => by
    have e' : b = s1.heap.objs.size + 1 ∨ b = s1.heap.objs.size := by simpa using hb
    have hle : s1.heap.objs.size ≤ b := by
      rcases e' with z | z
      · rw [z]; exact Nat.le_add_right _ _
      · rw [z]; exact Nat.le_refl _
    exact I1.fpOk hle (I1.hok.fresh hle)
  cases r1 with
  | cons r rr =>
    cases rr
    obtain ⟨o, Hq, B, hH, hfp, hst⟩ := SK.beg I1 hq r
    refine call_enum_g B hH fun h' he hit hsz hk => wpAny_pyIter_enum he ?_
    have I2 : Inv X pins σ H1 { s1 with heap := h' } := I1.kept (t' := s1.toks) hk
    refine ⟨s1.heap.objs.size + 1, [s1.heap.objs.size + 1, s1.heap.objs.size], _, _, H1, rfl, I2, turn_enumG k (s1.heap.objs.size + 1) s1.heap.objs.size (Nat.succ_ne_self _) (fun z => ?_) (fun z => ?_), ⟨⟨.none, he⟩, hst _ _ hit⟩, fp, q⟩
    · have := hfp _ z
      exact absurd this (Nat.not_lt.mpr (Nat.le_add_right _ _))
    · exact absurd (hfp _ z) (Nat.lt_irrefl _)
/-! ### zip of two -/
def ItzG (K : PySem.W.Frag) (k1 k2 : SK) : It :=
  ⟨fun i H => ∃ (xs ys : List V) (x y : V), k1.sq K H xs ∧ k2.sq K H ys ∧ xs[i]? = some x ∧ ys[i]? = some y,
    fun i H v H' => ∃ T x y, v = .ref T ∧ H T = none ∧ H' = upd H T (.tup [x, y]) ∧ (∀ xs, k1.sq K H xs → xs[i]? = some x) ∧ ∀ ys, k2.sq K H ys → ys[i]? = some y,
    fun i H => ∃ xs ys : List V, k1.sq K H xs ∧ k2.sq K H ys ∧ i ≤ xs.length ∧ i ≤ ys.length ∧ (i = xs.length ∨ i = ys.length)⟩
theorem turn_zipG {P : Program} {w : World} {K : PySem.W.Frag} {elts : List Expr} {kk : Nat} {tpos : Pos} {k1 k2 : SK} {z TI TO i1 i2 : Addr} (S : ZipSep2 z TI TO i1 i2 (i1 :: k1.fp) (i2 :: k2.fp)) (hf1 : i1 ∉ k1.fp) (hf2 : i2 ∉ k2.fp) :
    Turn P w K (.Tuple elts kk tpos) (ItzG K k1 k2) [z, TI, TO, i1, i2] z (fun i h => IsZip h z TI TO .none ∧ IsTupOf2 h TI (.ref i1) (.ref i2) ∧ (∃ x y, IsTupOf2 h TO x y) ∧ k1.st h i1 i ∧ k2.st h i2 i) where
  mem := by simp
  obj := fun i h st c hc => by
    obtain ⟨hz, hTI, ⟨x, y, hTO⟩, h1, h2⟩ := st
    have e' : c = z ∨ c = TI ∨ c = TO ∨ c = i1 ∨ c = i2 := by simpa using hc
    rcases e' with q | q | q | q | q
    · rw [q]; exact ⟨_, hz, fun v q => nomatch q⟩
    · rw [q]; exact ⟨_, hTI, fun v q => nomatch q⟩
    · rw [q]; exact ⟨_, hTO, fun v q => nomatch q⟩
    · rw [q]; exact SK.st_obj h1
    · rw [q]; exact SK.st_obj h2
  keep := fun i h h' st k => by
    obtain ⟨hz, hTI, ⟨x, y, hTO⟩, h1, h2⟩ := st
    exact ⟨k z (by simp) _ hz, k TI (by simp) _ hTI, ⟨x, y, k TO (by simp) _ hTO⟩, SK.st_at h1 fun o q => k i1 (by simp) o q, SK.st_at h2 fun o q => k i2 (by simp) o q⟩
  item := by
    intro X hP hw hK hc i pins s σ H E I hf st hg
    subst hP hw hK
    obtain ⟨hz, hTI, ⟨x0, y0, hTO⟩, h1, h2⟩ := st
    obtain ⟨xs, ys, x, y, hqx, hqy, hx, hy⟩ := hg
    obtain ⟨n1, P1, St1, D1, rfl, hst1, hP1, hS1⟩ := SK.dr I hc hqx h1 hf1
    obtain ⟨n2, P2, St2, D2, rfl, hst2, hP2, hS2⟩ := SK.dr I hc hqy h2 hf2
    have hzl : z < s.heap.objs.size := Heap.lt_size hz
    refine wpAny_pyNext_zipD2_item S D1 D2 hz hTI hTO hst1 hst2 (List.getElem?_eq_some_iff.mp hx).1 (List.getElem?_eq_some_iff.mp hy).1 fun u u2 h' tk hu hu2 z' TO' h1' h2' hT hsz hk => ?_
    obtain ⟨x', hx', ru⟩ := hP1 i u hu
    rw [hx] at hx'
    cases hx'
    obtain ⟨y', hy', ru2⟩ := hP2 i u2 hu2
    rw [hy] at hy'
    cases hy'
    refine ⟨_, rfl, wpAny_letOwnedTupleGo_zip (s := { s with heap := h', toks := tk }) z' fun h'' z'' sb => ?_⟩
    have hT2 : h''.get? s.heap.objs.size = some { cls := .type "tuple", data := .seq #[u, u2] } := (sb.2 _ (Nat.ne_of_gt hzl)).trans hT
    have new : ObjOk X.prog X.w (upd H s.heap.objs.size (.tup [x, y])) h'' s.heap.objs.size (.tup [x, y]) :=
      ⟨by show 2 ≤ sizeLine; decide, [u, u2], .cons ru (.cons ru2 .nil), ⟨_, hT2, rfl, _, rfl⟩⟩
    have I1 : Inv X pins σ (upd H s.heap.objs.size (.tup [x, y])) { s with heap := h'', toks := tk } :=
      I.turnedNew (ch := [z, TI, TO, i1, i2]) (fun c o hb q => (sb.2 c (fun q' => hb (by simp [q']))).trans (hk c o (fun q' => hb (by simp [q'])) (fun q' => hb (by simp [q'])) (fun q' => hb (by simp [q'])) (fun q' => hb (by simp [q'])) q)) hf (Nat.le_refl _) new
    refine ⟨.ref s.heap.objs.size, _, I1, rfl, ⟨_, x, y, rfl, I.hok.fresh (Nat.le_refl _), rfl, fun l hl => by rw [SK.inj I hl hqx]; exact hx, fun l hl => by rw [SK.inj I hl hqy]; exact hy⟩, ⟨z'', ?_, ⟨u, u2, ?_⟩, ?_, ?_⟩, fun c hcm => ?_⟩
    · exact (sb.2 _ S.TIz).trans (hk _ _ S.TIz S.TITO S.TIi1 S.TIi2 hTI)
    · exact (sb.2 _ S.TOz).trans TO'
    · exact SK.st_at (hS1 _ _ h1') fun o q => (sb.2 _ (Ne.symm S.zi1)).trans q
    · exact SK.st_at (hS2 _ _ h2') fun o q => (sb.2 _ (Ne.symm S.zi2)).trans q
    · have hlt : c < s.heap.objs.size := by
        have e' : c = z ∨ c = TI ∨ c = TO ∨ c = i1 ∨ c = i2 := by simpa using hcm
        rcases e' with q | q | q | q | q
        · rw [q]; exact hzl
        · rw [q]; exact Heap.lt_size hTI
        · rw [q]; exact Heap.lt_size hTO
        · rw [q]; obtain ⟨_, e1, _⟩ := SK.st_obj h1; exact Heap.lt_size e1
        · rw [q]; obtain ⟨_, e2, _⟩ := SK.st_obj h2; exact Heap.lt_size e2
      rw [upd_ne (Nat.ne_of_lt hlt)]
      exact (hf c hcm).1
  done := by
    intro X hP hw hK hc i pins s σ H E I hf st hg
    subst hP hw hK
    obtain ⟨hz, hTI, ⟨x0, y0, hTO⟩, h1, h2⟩ := st
    obtain ⟨xs, ys, hqx, hqy, l1, l2, hend⟩ := hg
    obtain ⟨n1, P1, St1, D1, rfl, hst1, hP1, hS1⟩ := SK.dr I hc hqx h1 hf1
    obtain ⟨n2, P2, St2, D2, rfl, hst2, hP2, hS2⟩ := SK.dr I hc hqy h2 hf2
    exact wpAny_pyNext_zipD2_end S D1 D2 hz hTI hTO hst1 hst2 l1 l2 hend fun h' tk hk => ⟨rfl, I.turnedL (t' := tk) (ch := [z, TI, TO, i1, i2]) (fun c o hb q =>
      hk c o (fun q' => hb (by simp [q'])) (fun q' => hb (by simp [q'])) (fun q' => hb (by simp [q'])) (fun q' => hb (by simp [q'])) q) hf⟩
  self := fun A i s Q E st h => wpAny_pyIter_zip st.1 h
def iZipG (K : PySem.W.Frag) (ta : TA) : TI := fun σ H R => ta σ H fun vs H1 => ∃ k1 k2 xs ys, vs = [SK.val k1, SK.val k2] ∧ k1.sq K H1 xs ∧ k2.sq K H1 ys ∧ R (ItzG K k1 k2) H1
theorem pi_zipG {X : Cx} {e e2 : Expr} {ta : TA} {p pos tpos : Pos} {elts : List Expr} {kk : Nat} (hg : Gl X "zip") (hm : X.mg "zip" = none) (ha : PA X [e, e2] ta)
    (hs : starEach [e, e2] X.env = (false, eval e X.env) :: starEach [e2] X.env := by rfl) (hpl : (backTo pos (starEach [e2] X.env)).any (·.1) = false := by rfl) :
    PI X (.Tuple elts kk tpos) (.Call (.Name "zip" p) [e, e2] [] pos) (iZipG X.K ta) := by
  refine ⟨fun pins s σ H R I h => ?_⟩
  refine Call_ (ld_blt I hg hm PyProof.Rows.boot_zip (PyProof.Rows.callWith_type1 (thn (ha.run pos pins s σ H _ I h) fun us s1 ⟨vs, H1, I1, r1, q1⟩ => ?_) hs hpl))
  obtain ⟨k1, k2, xs, ys, ex, hqx, hqy, q⟩ := q1
  subst ex
  cases r1 with
  | cons r rr =>
    cases rr with
    | cons r' rr =>
      cases rr
      have fresh5 : ∀ c, c ∈ [s1.heap.objs.size + 4, s1.heap.objs.size + 2, s1.heap.objs.size + 3, s1.heap.objs.size, s1.heap.objs.size + 1] → FpOk X pins H1 c := fun c hcm => by
        have e' : c = s1.heap.objs.size + 4 ∨ c = s1.heap.objs.size + 2 ∨ c = s1.heap.objs.size + 3 ∨ c = s1.heap.objs.size ∨ c = s1.heap.objs.size + 1 := by simpa using hcm
        have hle : s1.heap.objs.size ≤ c := by
          rcases e' with z | z | z | z | z
          · rw [z]; exact Nat.le_add_right _ _
          · rw [z]; exact Nat.le_add_right _ _
          · rw [z]; exact Nat.le_add_right _ _
          · rw [z]; exact Nat.le_refl _
          · rw [z]; exact Nat.le_add_right _ _
        exact I1.fpOk hle (I1.hok.fresh hle)
      obtain ⟨o1, Hq1, B1, hH1, hfp1, hst1⟩ := SK.beg I1 hqx r
      obtain ⟨o2, Hq2, B2, hH2, hfp2, hst2⟩ := SK.beg I1 hqy r'
      refine zip_begins2 B1 B2 hH1 hH2 fun h' hz hTI hTO h1 h2 hsz hk => wpAny_pyIter_zip hz ?_
      have I2 : Inv X pins σ H1 { s1 with heap := h' } := I1.kept (t' := s1.toks) hk
      refine ⟨s1.heap.objs.size + 4, [s1.heap.objs.size + 4, s1.heap.objs.size + 2, s1.heap.objs.size + 3, s1.heap.objs.size, s1.heap.objs.size + 1], _, _, H1, rfl, I2, turn_zipG (zip_sep2 hfp1 hfp2) (fun z => absurd (hfp1 _ z) (Nat.lt_irrefl _)) (fun z => absurd (hfp2 _ z) (Nat.not_lt.mpr (Nat.le_add_right _ _))), ⟨hz, hTI, ⟨_, _, hTO⟩, hst1 _ _ h1, hst2 _ _ h2⟩, fresh5, q⟩
end Sw
set_option maxHeartbeats 1000000
/-! Sw, part 15: what is walked. -/
namespace Sw
open PySem PySem.Spec PyProof.Rows L2
/-- what the turns give -/
def YP (K : PySem.W.Frag) (ps : List P) : Nat → Hp → V → Hp → Prop := fun i H x H' => Same H H' ∧ ∃ p, ps[i]? = some p ∧ PRep K H' x p
def tI (K : PySem.W.Frag) (k : IK) (f : M (List Opd)) : TI := fun σ H R => ∃ e F os e' ds ps, EnvRep K H σ e F ∧ F.Nodup ∧ f e = some (os, e') ∧ resvs e' os = some ds ∧ items k ds = some ps ∧
  ∀ J vs H' Fd F', ORs K H' σ vs os Fd → EnvRep K H' σ e' F' → (Fd ++ F').Nodup → Stp H F H' (Fd ++ F') → Walk J ps.length (fun H => PkAll K H vs ds) (YP K ps) → R J H'
theorem pk_list {K : PySem.W.Frag} {H : Hp} {v : V} {d : D} {ps : List P} (h : listOf d = some ps) {F : List Addr} (r : Rep K H v d F) : ∃ a xs, v = .ref a ∧ SqL K H a xs ∧ PReps K H xs ps := by
  unfold listOf at h
  split at h
  · cases h; obtain ⟨a, xs, rfl, h, q⟩ := r.flst_of; exact ⟨a, xs, rfl, h.sql, q⟩
  · cases h; obtain ⟨a, xs, rfl, h, q, _⟩ := r.lst_of; exact ⟨a, xs, rfl, SqL.of h, q⟩
  · cases h
section
variable {K : PySem.W.Frag} {a b : Addr} {d d2 : D} {ps qs : List P}
theorem pk_list1 (h : listOf d = some ps) {H : Hp} (pk : PkAll K H [.ref a] [d]) : ∃ xs, SqL K H a xs ∧ PReps K H xs ps := by
  obtain ⟨v, F, e, r⟩ := pk.one
  cases e
  obtain ⟨a', xs, e, q1, q2⟩ := pk_list h r
  cases e
  exact ⟨xs, q1, q2⟩
theorem pk_tup1 {H : Hp} (pk : PkAll K H [.ref a] [.imm (.tup ps)]) : ∃ xs, SqT K H a xs ∧ PReps K H xs ps := by
  obtain ⟨v, F, e, r⟩ := pk.one
  cases e
  obtain ⟨a', xs, e, q1, q2⟩ := r.tup_of
  cases e
  exact ⟨xs, q1, q2⟩
theorem walkP_list (h : listOf d = some ps) : Walk (Itl K a) ps.length (fun H => PkAll K H [.ref a] [d]) (YP K ps) := by
  refine ⟨fun i H hi pk => ?_, fun H pk => ?_, fun i H x H' hi pk y => ?_⟩
  · obtain ⟨xs, q1, q2⟩ := pk_list1 h pk
    have hl := q2.length
    exact ⟨xs, xs[i]'(by omega), q1, by simp⟩
  · obtain ⟨xs, q1, q2⟩ := pk_list1 h pk
    exact ⟨xs, q1, by rw [q2.length]; exact Nat.le_refl _⟩
  · obtain ⟨xs, q1, q2⟩ := pk_list1 h pk
    obtain ⟨rfl, y⟩ := y
    obtain ⟨p, h1, h2⟩ := q2.getV (y xs q1)
    exact ⟨fun _ _ e => e, p, h1, h2⟩
theorem walkP_tup : Walk (Itt K a) ps.length (fun H => PkAll K H [.ref a] [.imm (.tup ps)]) (YP K ps) := by
  refine ⟨fun i H hi pk => ?_, fun H pk => ?_, fun i H x H' hi pk y => ?_⟩
  · obtain ⟨xs, q1, q2⟩ := pk_tup1 pk
    have hl := q2.length
    exact ⟨xs, xs[i]'(by omega), q1, by simp⟩
  · obtain ⟨xs, q1, q2⟩ := pk_tup1 pk
    exact ⟨xs, q1, by rw [q2.length]; exact Nat.le_refl _⟩
  · obtain ⟨xs, q1, q2⟩ := pk_tup1 pk
    obtain ⟨rfl, y⟩ := y
    obtain ⟨p, h1, h2⟩ := q2.getV (y xs q1)
    exact ⟨fun _ _ e => e, p, h1, h2⟩
theorem walkP_str {s : List Nat} : Walk (Its (sOf s)) (s.map fun c => P.str [c]).length (fun H => PkAll K H [.str (sOf s)] [.imm (.str s)]) (YP K (s.map fun c => P.str [c])) := by
  refine ⟨fun i H hi pk => ?_, fun H pk => ?_, fun i H x H' hi pk y => ?_⟩
  · rw [List.length_map] at hi
    show i < (sOf s).cps.size
    simpa [sOf] using hi
  · rw [List.length_map]
    show (sOf s).cps.size ≤ _
    simp [sOf]
  · obtain ⟨rfl, c, h1, rfl⟩ := y
    obtain ⟨v, F, e, r⟩ := pk.one
    obtain ⟨_, ok⟩ := r.str_of
    have h1 : s[i]? = some c := by simpa [sOf] using h1
    refine ⟨fun _ _ e => e, .str [c], by rw [List.getElem?_map, h1]; rfl, ?_⟩
    refine .str [c] ?_
    unfold chrOk at ok ⊢
    rw [List.all_cons, List.all_nil, Bool.and_true]
    exact List.all_eq_true.mp ok c (List.mem_of_getElem? h1)
theorem walkP_rng {G : Hp → Prop} {lo : Int} {n : Nat} : Walk (Itr lo n) ((List.range n).map fun k : Nat => P.int (lo + (k : Int))).length G (YP K ((List.range n).map fun k : Nat => P.int (lo + (k : Int)))) := by
  rw [List.length_map, List.length_range]
  refine ⟨fun i H hi _ => hi, fun H _ => Nat.le_refl _, fun i H x H' hi _ y => ?_⟩
  obtain ⟨rfl, rfl⟩ := y
  exact ⟨fun _ _ e => e, .int (lo + i), by rw [List.getElem?_map, List.getElem?_range hi]; rfl, .int _⟩
theorem walkP_rngD {G : Hp → Prop} {lo : Int} {n : Nat} : Walk (Itc lo (-1) n) ((List.range n).map fun k : Nat => P.int (lo - (k : Int))).length G (YP K ((List.range n).map fun k : Nat => P.int (lo - (k : Int)))) := by
  rw [List.length_map, List.length_range]
  refine ⟨fun i H hi _ => hi, fun H _ => Nat.le_refl _, fun i H x H' hi _ y => ?_⟩
  obtain ⟨rfl, rfl⟩ := y
  refine ⟨fun _ _ e => e, .int (lo - i), by rw [List.getElem?_map, List.getElem?_range hi]; rfl, ?_⟩
  rw [show lo + (i : Nat) * (-1 : Int) = lo - i by omega]
  exact .int _
theorem pair_rep {H : Hp} {T : Addr} {x y : V} {p q : P} (hT : H T = none) (h1 : PRep K H x p) (h2 : PRep K H y q) : PRep K (upd H T (.tup [x, y])) (.ref T) (.tup [p, q]) :=
  .tup (SqT.of upd_same) (.cons (h1.keep (Keeps.of_same (same_new hT))) (.cons (h2.keep (Keeps.of_same (same_new hT))) .nil))
/-- which kind a value is -/
def KD : SK → D → Prop
  | .l _, d => ∃ ps, listOf d = some ps
  | .t _, d => ∃ ps, d = .imm (.tup ps)
  | .s x, d => ∃ s, x = sOf s ∧ d = .imm (.str s)
theorem chV_reps {H : Hp} : ∀ {s : List Nat}, chrOk s = true → PReps K H (s.map fun c => V.str ⟨#[c]⟩) (s.map fun c => P.str [c])
  | [], _ => .nil
  | c :: s, h => by
    unfold chrOk at h
    rw [List.all_cons, Bool.and_eq_true] at h
    refine .cons (.str [c] ?_) (chV_reps h.2)
    unfold chrOk
    rw [List.all_cons, List.all_nil, Bool.and_true]
    exact h.1
theorem rep_sk {H : Hp} {v : V} {F : List Addr} (r : Rep K H v d F) (h : elems d = some ps) : ∃ k, v = SK.val k ∧ KD k d := by
  cases d with
  | lst qs =>
    obtain ⟨a, xs, rfl, _⟩ := r.lst_of
    exact ⟨.l a, rfl, qs, rfl⟩
  | imm p =>
    cases p with
    | tup qs =>
      obtain ⟨a, xs, rfl, _⟩ := r.tup_of
      exact ⟨.t a, rfl, qs, rfl⟩
    | lst qs =>
      obtain ⟨a, xs, rfl, _⟩ := r.flst_of
      exact ⟨.l a, rfl, qs, rfl⟩
    | str s =>
      obtain ⟨rfl, _⟩ := r.str_of
      exact ⟨.s (sOf s), rfl, s, rfl, rfl⟩
    | _ => cases h
theorem sk_rep {H : Hp} {k : SK} {F : List Addr} (q : KD k d) (r : Rep K H k.val d F) (h : elems d = some ps) : ∃ xs, k.sq K H xs ∧ PReps K H xs ps := by
  cases k with
  | l a =>
    obtain ⟨qs, hq⟩ := q
    have e : qs = ps := by
      cases d with
      | lst _ => cases hq; cases h; rfl
      | imm p => cases p <;> first | (cases hq; cases h; rfl) | cases hq
    subst e
    obtain ⟨a', xs, e, q1, q2⟩ := pk_list hq r
    cases e
    exact ⟨xs, q1, q2⟩
  | t a =>
    obtain ⟨qs, rfl⟩ := q
    cases h
    obtain ⟨a', xs, e, q1, q2⟩ := r.tup_of
    cases e
    exact ⟨xs, q1, q2⟩
  | s x =>
    obtain ⟨s, rfl, rfl⟩ := q
    cases h
    obtain ⟨_, c⟩ := r.str_of
    refine ⟨chV (sOf s), rfl, ?_⟩
    unfold chV
    rw [sOf_cps]
    exact chV_reps c
theorem walkP_enum {k : SK} (q : KD k d) (h : elems d = some ps) : Walk (IteG K k) (ps.zipIdx.map fun q => P.tup [.int (q.2 : Int), q.1]).length (fun H => PkAll K H [k.val] [d]) (YP K (ps.zipIdx.map fun q => P.tup [.int (q.2 : Int), q.1])) := by
  have one : ∀ {H : Hp}, PkAll K H [k.val] [d] → ∃ xs, k.sq K H xs ∧ PReps K H xs ps := fun {H} pk => by
    obtain ⟨v, F, e, r⟩ := pk.one
    cases e
    exact sk_rep q r h
  rw [List.length_map, List.length_zipIdx]
  refine ⟨fun i H hi pk => ?_, fun H pk => ?_, fun i H x H' hi pk y => ?_⟩
  · obtain ⟨xs, q1, q2⟩ := one pk
    have hl := q2.length
    exact ⟨xs, xs[i]'(by omega), q1, by simp⟩
  · obtain ⟨xs, q1, q2⟩ := one pk
    exact ⟨xs, q1, q2.length⟩
  · obtain ⟨xs, q1, q2⟩ := one pk
    obtain ⟨T, x, rfl, hT, rfl, y⟩ := y
    obtain ⟨p, h1, h2⟩ := q2.getV (y xs q1)
    exact ⟨same_new hT, .tup [.int (i : Int), p], by rw [List.getElem?_map, List.getElem?_zipIdx, h1]; simp, pair_rep hT (.int _) h2⟩
theorem get_zip {α β : Type} {xs : List α} {ys : List β} {i : Nat} {x : α} {y : β} (h1 : xs[i]? = some x) (h2 : ys[i]? = some y) : (xs.zip ys)[i]? = some (x, y) := by
  rw [List.getElem?_zip_eq_some]
  exact ⟨h1, h2⟩
theorem walkP_zip {k1 k2 : SK} (g1 : KD k1 d) (g2 : KD k2 d2) (h : elems d = some ps) (h' : elems d2 = some qs) : Walk (ItzG K k1 k2) ((ps.zip qs).map fun q => P.tup [q.1, q.2]).length (fun H => PkAll K H [k1.val, k2.val] [d, d2]) (YP K ((ps.zip qs).map fun q => P.tup [q.1, q.2])) := by
  have two : ∀ {H : Hp}, PkAll K H [k1.val, k2.val] [d, d2] → (∃ xs, k1.sq K H xs ∧ PReps K H xs ps) ∧ ∃ ys, k2.sq K H ys ∧ PReps K H ys qs := fun {H} pk => by
    obtain ⟨v, u, F, G, e, r, r'⟩ := pk.two
    cases e
    exact ⟨sk_rep g1 r h, sk_rep g2 r' h'⟩
  rw [List.length_map, List.length_zip]
  refine ⟨fun i H hi pk => ?_, fun H pk => ?_, fun i H x H' hi pk y => ?_⟩
  · obtain ⟨⟨xs, q1, q2⟩, ys, q3, q4⟩ := two pk
    have hl := q2.length
    have hl2 := q4.length
    exact ⟨xs, ys, xs[i]'(by omega), ys[i]'(by omega), q1, q3, by simp, by simp⟩
  · obtain ⟨⟨xs, q1, q2⟩, ys, q3, q4⟩ := two pk
    have hl := q2.length
    have hl2 := q4.length
    exact ⟨xs, ys, q1, q3, by omega, by omega, by omega⟩
  · obtain ⟨⟨xs, q1, q2⟩, ys, q3, q4⟩ := two pk
    obtain ⟨T, x, z, rfl, hT, rfl, y1, y2⟩ := y
    obtain ⟨p, h1, h2⟩ := q2.getV (y1 xs q1)
    obtain ⟨q, h3, h4⟩ := q4.getV (y2 ys q3)
    exact ⟨same_new hT, .tup [p, q], by rw [List.getElem?_map, get_zip h1 h3]; rfl, pair_rep hT h2 h4⟩
end
section
variable {T : Tab} {Φ : CallS} {k : Nat} {sc : Scope} {X : Cx} {tg : Expr}
theorem chkEs_cons {a : E} {as : List E} {xs : List Expr} (h : chkEs T sc (a :: as) xs = true) : ∃ y ys, xs = y :: ys ∧ notStar y = true ∧ chkE T sc a y = true ∧ chkEs T sc as ys = true := by
  cases xs with
  | nil => simp only [chkEs] at h; cases h
  | cons y ys =>
    simp only [chkEs, Bool.and_eq_true] at h
    exact ⟨y, ys, rfl, h.1.1, h.1.2, h.2⟩
theorem chkEs_nil {xs : List Expr} (h : chkEs T sc [] xs = true) : xs = [] := by
  cases xs with
  | nil => rfl
  | cons y ys => simp only [chkEs] at h; cases h
theorem chkEs_star : ∀ {as : List E} {xs : List Expr}, chkEs T sc as xs = true → xs.all notStar = true
  | [], xs, h => by rw [chkEs_nil h]; rfl
  | a :: as, xs, h => by
    obtain ⟨y, ys, rfl, h1, _, h3⟩ := chkEs_cons h
    rw [List.all_cons, h1, chkEs_star h3] <;> rfl
theorem chkEs_len : ∀ {as : List E} {xs : List Expr}, chkEs T sc as xs = true → as.length = xs.length
  | [], xs, h => by rw [chkEs_nil h] <;> rfl
  | a :: as, xs, h => by
    obtain ⟨y, ys, rfl, _, _, h3⟩ := chkEs_cons h
    rw [List.length_cons, List.length_cons, chkEs_len h3]
theorem ORs.one_ref {K : PySem.W.Frag} {H : Hp} {σ : L2.St} {v : V} {x : Opd} {Fs : List Addr} (h : ORep K H σ v x Fs) : ORs K H σ [v] [x] Fs := by
  have := ORs.cons h .nil
  rwa [List.append_nil] at this
theorem elems_cases {d : D} {ps : List P} (h : elems d = some ps) : d = .imm (.tup ps) ∨ listOf d = some ps ∨ ∃ s, d = .imm (.str s) ∧ ps = s.map fun c => .str [c] := by
  unfold elems at h
  split at h
  · cases h; exact .inl rfl
  · cases h; exact .inr (.inl rfl)
  · cases h; exact .inr (.inr ⟨_, rfl, rfl⟩)
  · cases h; exact .inr (.inl rfl)
  · cases h
theorem snd_iseq {a : E} {x : Expr} (ha : PE X x (tO X.K (evo Φ T.G a))) : PI X tg x (tI X.K .seq (evos Φ T.G [a])) := by
  refine ⟨fun pins s σ H R I h => ?_⟩
  obtain ⟨e, F, os, e', ds, ps, he, n, hf, hr, hi, hR⟩ := h
  obtain ⟨y, h1, rfl⟩ := evos_one hf
  simp only [resvs] at hr
  obtain ⟨d, hr1, h2⟩ := bind_some hr
  simp only [Option.bind_some] at h2
  cases h2
  clear hr
  have hi : elems d = some ps := hi
  rcases elems_cases hi with rfl | hl | ⟨s', rfl, rfl⟩
  · refine (pi_tup ha).run pins s σ H R I (tO_mk he n h1 fun v H1 Fd F1 ox he1 n1 s1 => ?_)
    obtain ⟨F0, r0⟩ := resv_ok he1 ox hr1
    obtain ⟨b, xs, rfl, q1, q2⟩ := r0.tup_of
    exact ⟨b, rfl, ⟨xs, q1⟩, hR _ _ _ Fd F1 (ORs.one_ref ox) he1 n1 s1 walkP_tup⟩
  · refine (pi_list ha).run pins s σ H R I (tO_mk he n h1 fun v H1 Fd F1 ox he1 n1 s1 => ?_)
    obtain ⟨F0, r0⟩ := resv_ok he1 ox hr1
    obtain ⟨b, xs, rfl, q1, q2⟩ := pk_list hl r0
    exact ⟨b, rfl, ⟨xs, q1⟩, hR _ _ _ Fd F1 (ORs.one_ref ox) he1 n1 s1 (walkP_list hl)⟩
  · refine (pi_str ha).run pins s σ H R I (tO_mk he n h1 fun v H1 Fd F1 ox he1 n1 s1 => ?_)
    obtain ⟨F0, r0⟩ := resv_ok he1 ox hr1
    obtain ⟨rfl, ok⟩ := r0.str_of
    exact ⟨_, rfl, hR _ _ _ Fd F1 (ORs.one_ref ox) he1 n1 s1 walkP_str⟩
theorem ints_one {ds : List D} {ps : List P} (h : items .rng1 ds = some ps) : ∃ j : Int, ds = [.imm (.int j)] ∧ (-(2 ^ 62) ≤ j ∧ j < 2 ^ 62) ∧ ps = (List.range j.toNat).map fun k : Nat => P.int (k : Int) := by
  unfold items at h
  split at h
  all_goals first
    | (rename_i e _; cases e; done)
    | (rename_i e; cases e; done)
    | skip
  all_goals first
    | (cases h; done)
    | skip
  all_goals
    split at h
    · rename_i c
      cases h
      unfold small62 at c
      exact ⟨_, rfl, of_decide_eq_true c, rfl⟩
    · cases h
theorem ints_two {ds : List D} {ps : List P} (h : items .rng2 ds = some ps) : ∃ i j : Int, ds = [.imm (.int i), .imm (.int j)] ∧ (-(2 ^ 62) ≤ i ∧ i < 2 ^ 62 ∧ -(2 ^ 62) ≤ j ∧ j < 2 ^ 62) ∧ ps = (List.range (j - i).toNat).map fun k : Nat => P.int (i + (k : Int)) := by
  unfold items at h
  split at h
  all_goals first
    | (rename_i e _; cases e; done)
    | (rename_i e; cases e; done)
    | skip
  all_goals first
    | (cases h; done)
    | skip
  all_goals
    split at h
    · rename_i c
      cases h
      rw [Bool.and_eq_true] at c
      unfold small62 at c
      have c1 := of_decide_eq_true c.1
      have c2 := of_decide_eq_true c.2
      exact ⟨_, _, rfl, ⟨c1.1, c1.2, c2.1, c2.2⟩, rfl⟩
    · cases h
theorem ints_three {ds : List D} {ps : List P} (h : items .rng3 ds = some ps) : ∃ i j : Int, ds = [.imm (.int i), .imm (.int j), .imm (.int (-1))] ∧ (-(2 ^ 62) ≤ i ∧ i < 2 ^ 62 ∧ -(2 ^ 62) ≤ j ∧ j < 2 ^ 62) ∧ ps = (List.range (i - j).toNat).map fun k : Nat => P.int (i - (k : Int)) := by
  unfold items at h
  split at h
  all_goals first
    | (rename_i e _; cases e; done)
    | (rename_i e; cases e; done)
    | skip
  all_goals first
    | (cases h; done)
    | skip
  all_goals
    split at h
    · rename_i c
      cases h
      rw [Bool.and_eq_true, Bool.and_eq_true] at c
      unfold small62 at c
      have c1 := of_decide_eq_true c.1.1
      have c2 := of_decide_eq_true c.1.2
      have c3 := of_decide_eq_true c.2
      subst c3
      exact ⟨_, _, rfl, ⟨c1.1, c1.2, c2.1, c2.2⟩, rfl⟩
    · cases h
theorem enum_of {ds : List D} {ps : List P} (h : items .enum ds = some ps) : ∃ d qs, ds = [d] ∧ elems d = some qs ∧ ps = qs.zipIdx.map fun q => P.tup [.int (q.2 : Int), q.1] := by
  match ds, h with
  | [x], h =>
    have h : (elems x).map _ = some ps := h
    cases q : elems x with
    | none => rw [q] at h; cases h
    | some qs => rw [q] at h; cases h; exact ⟨x, qs, rfl, q, rfl⟩
theorem zip_of {ds : List D} {ps : List P} (h : items .zip ds = some ps) : ∃ d d2 qs rs, ds = [d, d2] ∧ ps = (qs.zip rs).map (fun q => P.tup [q.1, q.2]) ∧ elems d = some qs ∧ elems d2 = some rs := by
  match ds, h with
  | [x, y], h =>
    obtain ⟨qs, h1, h2⟩ := bind_some (show zipSem x y = some ps from h)
    obtain ⟨rs, h3, h4⟩ := bind_some h2
    cases h4
    exact ⟨x, y, qs, rs, rfl, rfl, h1, h3⟩
theorem two_ds {K : PySem.W.Frag} {H : Hp} {vs : List V} {d d2 : D} (pk : PkAll K H vs [d, d2]) : ∃ v u F G, vs = [v, u] ∧ Rep K H v d F ∧ Rep K H u d2 G := by
  cases pk with
  | cons r t =>
    obtain ⟨F, r⟩ := r
    obtain ⟨u, G, rfl, q⟩ := t.one
    exact ⟨_, u, F, G, rfl, r, q⟩
theorem snd_I {ik : IK} {as : List E} {x : Expr} (g : Good T Φ k sc X) (h : chkI sc (isTup tg) ik (fun xs => chkEs T sc as xs) x = true)
    (hE : ∀ a x, as = [a] → chkE T sc a x = true → PE X x (tO X.K (evo Φ T.G a))) (hA : ∀ xs, chkEs T sc as xs = true → PA X xs (tOs X.K (evos Φ T.G as))) : PI X tg x (tI X.K ik (evos Φ T.G as)) := by
  cases ik with
  | seq =>
    have h := (Bool.and_eq_true _ _).mp h
    cases as with
    | nil => have := chkEs_len h.2; cases this
    | cons a as =>
      obtain ⟨y, ys, e, _, h2, h3⟩ := chkEs_cons h.2
      cases e
      cases as with
      | nil => exact snd_iseq (hE a _ rfl h2)
      | cons _ _ => have := chkEs_len h3; cases this
  | rng1 =>
    obtain ⟨p, args, pos, rfl, hg, hs, hn2⟩ := chkC_of (y := "range") (n := 1) h
    obtain ⟨g1, g2, g3⟩ := gl_of hg
    have stars := chkEs_star hs
    match args, hn2, stars, hs with
    | [y], _, stars, hs =>
      simp only [List.all_cons, List.all_nil, Bool.and_true] at stars
      refine ⟨fun pins s σ H R I h => (pi_range1 (g.gl g1) (g.blt _ (by decide)) (hA _ hs) (star_of stars _ _)).run pins s σ H R I ?_⟩
      obtain ⟨e, F, os, e', ds, ps, he, n, hf, hr, hi, hR⟩ := h
      refine ⟨e, F, os, e', he, n, hf, fun vs H1 Fd F1 rs he1 n1 s1 => ?_⟩
      obtain ⟨j, rfl, ⟨c1, c2⟩, rfl⟩ := ints_one hi
      obtain ⟨v, F0, rfl, r⟩ := (resvs_ok he1 rs hr).one
      obtain rfl := r.int_of
      refine ⟨j, rfl, c1, c2, hR _ _ _ Fd F1 rs he1 n1 s1 ?_⟩
      have w := walkP_rng (K := X.K) (G := fun H => PkAll X.K H [.int j] [.imm (.int j)]) (lo := 0) (n := j.toNat)
      simpa using w
  | rng2 =>
    obtain ⟨p, args, pos, rfl, hg, hs, hn2⟩ := chkC_of (y := "range") (n := 2) h
    obtain ⟨g1, g2, g3⟩ := gl_of hg
    have stars := chkEs_star hs
    match args, hn2, stars, hs with
    | [y, z], _, stars, hs =>
      simp only [List.all_cons, List.all_nil, Bool.and_true, Bool.and_eq_true] at stars
      refine ⟨fun pins s σ H R I h => (pi_range2 (g.gl g1) (g.blt _ (by decide)) (hA _ hs) (by rw [star_of stars.1, star_of stars.2] <;> rfl) (star_of stars.2 _ _)).run pins s σ H R I ?_⟩
      obtain ⟨e, F, os, e', ds, ps, he, n, hf, hr, hi, hR⟩ := h
      refine ⟨e, F, os, e', he, n, hf, fun vs H1 Fd F1 rs he1 n1 s1 => ?_⟩
      obtain ⟨i, j, rfl, c, rfl⟩ := ints_two hi
      obtain ⟨v, u, F0, G0, rfl, r, r'⟩ := two_ds (resvs_ok he1 rs hr)
      obtain rfl := r.int_of
      obtain rfl := r'.int_of
      exact ⟨i, j, rfl, c, hR _ _ _ Fd F1 rs he1 n1 s1 walkP_rng⟩
  | rng3 =>
    obtain ⟨p, args, pos, rfl, hg, hs, hn2⟩ := chkC_of (y := "range") (n := 3) h
    obtain ⟨g1, g2, g3⟩ := gl_of hg
    have stars := chkEs_star hs
    match args, hn2, stars, hs with
    | [y, z, w], _, stars, hs =>
      rw [List.all_cons, Bool.and_eq_true] at stars
      refine ⟨fun pins s σ H R I h => (pi_range3 (g.gl g1) (g.blt _ (by decide)) (hA _ hs) (star_of stars.1 _ _) (stars_of stars.2)).run pins s σ H R I ?_⟩
      obtain ⟨e, F, os, e', ds, ps, he, n, hf, hr, hi, hR⟩ := h
      refine ⟨e, F, os, e', he, n, hf, fun vs H1 Fd F1 rs he1 n1 s1 => ?_⟩
      obtain ⟨i, j, rfl, c, rfl⟩ := ints_three hi
      have pk := resvs_ok he1 rs hr
      cases pk with
      | cons r t =>
        obtain ⟨F0, r⟩ := r
        obtain ⟨v, u, F2, G2, rfl, r', r''⟩ := two_ds t
        obtain rfl := r.int_of
        obtain rfl := r'.int_of
        obtain rfl := r''.int_of
        exact ⟨i, j, -1, (i - j).toNat, rfl, RgC.neg c.1 c.2.1 c.2.2.1 c.2.2.2, hR _ _ _ Fd F1 rs he1 n1 s1 walkP_rngD⟩
  | enum =>
    have h := (Bool.and_eq_true _ _).mp h
    obtain ⟨ht, h⟩ := h
    obtain ⟨p, args, pos, rfl, hg, hs, hn2⟩ := chkC_of (y := "enumerate") (n := 1) h
    obtain ⟨g1, g2, g3⟩ := gl_of hg
    have stars := chkEs_star hs
    match args, hn2, stars, hs with
    | [y], _, stars, hs =>
      simp only [List.all_cons, List.all_nil, Bool.and_true] at stars
      obtain ⟨e1, e2, e3, rfl⟩ := isTup_of ht
      · refine ⟨fun pins s σ H R I h => (pi_enumG (g.gl g1) (g.blt _ (by decide)) (hA _ hs) (star_of stars _ _)).run pins s σ H R I ?_⟩
        obtain ⟨e, F, os, e', ds, ps, he, n, hf, hr, hi, hR⟩ := h
        refine ⟨e, F, os, e', he, n, hf, fun vs H1 Fd F1 rs he1 n1 s1 => ?_⟩
        obtain ⟨d, qs, rfl, hl, rfl⟩ := enum_of hi
        obtain ⟨v, F0, rfl, r⟩ := (resvs_ok he1 rs hr).one
        obtain ⟨kk, rfl, kd⟩ := rep_sk r hl
        obtain ⟨xs, q1, q2⟩ := sk_rep kd r hl
        exact ⟨kk, xs, rfl, q1, hR _ _ _ Fd F1 rs he1 n1 s1 (walkP_enum kd hl)⟩
  | zip =>
    have h := (Bool.and_eq_true _ _).mp h
    obtain ⟨ht, h⟩ := h
    obtain ⟨p, args, pos, rfl, hg, hs, hn2⟩ := chkC_of (y := "zip") (n := 2) h
    obtain ⟨g1, g2, g3⟩ := gl_of hg
    have stars := chkEs_star hs
    match args, hn2, stars, hs with
    | [y, z], _, stars, hs =>
      rw [List.all_cons, Bool.and_eq_true] at stars
      obtain ⟨e1, e2, e3, rfl⟩ := isTup_of ht
      · refine ⟨fun pins s σ H R I h => (pi_zipG (g.gl g1) (g.blt _ (by decide)) (hA _ hs) (star_of stars.1 _ _) (stars_of stars.2)).run pins s σ H R I ?_⟩
        obtain ⟨e, F, os, e', ds, ps, he, n, hf, hr, hi, hR⟩ := h
        refine ⟨e, F, os, e', he, n, hf, fun vs H1 Fd F1 rs he1 n1 s1 => ?_⟩
        obtain ⟨d, d2, qs, ws, rfl, rfl, l1, l2⟩ := zip_of hi
        obtain ⟨v, u, F2, G2, rfl, r, r'⟩ := two_ds (resvs_ok he1 rs hr)
        obtain ⟨k1, rfl, kd1⟩ := rep_sk r l1
        obtain ⟨k2, rfl, kd2⟩ := rep_sk r' l2
        obtain ⟨xs, q1, q2⟩ := sk_rep kd1 r l1
        obtain ⟨ys, q3, q4⟩ := sk_rep kd2 r' l2
        exact ⟨k1, k2, xs, ys, rfl, q1, q3, hR _ _ _ Fd F1 rs he1 n1 s1 (walkP_zip kd1 kd2 l1 l2)⟩
end
end Sw
set_option maxHeartbeats 1000000
/-! Sw, part 16: targets, comprehensions. -/
namespace Sw
open PySem PySem.Spec PyProof.Rows L2
/-- the slots but those of l stand -/
def Agr (l : List Nat) (σ σ' : L2.St) : Prop := σ'.length = σ.length ∧ ∀ j, j ∉ l → σ'[j]? = σ[j]?
theorem Agr.refl (l : List Nat) (σ : L2.St) : Agr l σ σ := ⟨rfl, fun _ _ => rfl⟩
theorem Agr.trans {l : List Nat} {σ τ υ : L2.St} (a : Agr l σ τ) (b : Agr l τ υ) : Agr l σ υ := ⟨b.1.trans a.1, fun j h => (b.2 j h).trans (a.2 j h)⟩
theorem Agr.mono {l m : List Nat} {σ τ : L2.St} (a : Agr l σ τ) (h : ∀ j, j ∈ l → j ∈ m) : Agr m σ τ := ⟨a.1, fun j n => a.2 j fun z => n (h j z)⟩
theorem agr_set {i : Nat} {σ : L2.St} {x : Option V} : Agr [i] σ (σ.set i x) := ⟨List.length_set, fun j h => List.getElem?_set_ne fun e => h (by rw [e]; exact List.mem_singleton.mpr rfl)⟩
structure StOk (X : Cx) (st : Str → Bool) : Prop where
  loc : ∀ x, st x = true → Loc X.env.scope x
  fn : ∀ x, st x = true → X.fn x = true ∨ X.env.scope.names.lookup x = some .local
def tG (K : PySem.W.Frag) (t : Pat) : TG := fun v σ H Q => ∃ e F p e', EnvRep K H σ e F ∧ F.Nodup ∧ PRep K H v p ∧ bindP t p e = some e' ∧
  ∀ σ' F', EnvRep K H σ' e' F' → F'.Nodup → (∀ a, a ∈ F' → a ∈ F) → Agr (asgP t) σ σ' → Q σ' H
def tGs (K : PySem.W.Frag) (ts : List Pat) : TGs := fun vs σ H Q => ∃ e F ps e', EnvRep K H σ e F ∧ F.Nodup ∧ PReps K H vs ps ∧ bindPs ts ps e = some e' ∧
  ∀ σ' F', EnvRep K H σ' e' F' → F'.Nodup → (∀ a, a ∈ F' → a ∈ F) → Agr (asgPs ts) σ σ' → Q σ' H
theorem PG.weak {X : Cx} {e : Expr} {t t' : TG} (h : PG X e t) (w : ∀ v σ H Q, t' v σ H Q → t v σ H Q) : PG X e t' := ⟨fun pins s σ H v u Q I r q => h.run pins s σ H v u Q I r (w v σ H Q q)⟩
theorem PGs.weak {X : Cx} {e : List Expr} {t t' : TGs} (h : PGs X e t) (w : ∀ v σ H Q, t' v σ H Q → t v σ H Q) : PGs X e t' := ⟨fun pins s σ H v u Q I r q => h.run pins s σ H v u Q I r (w v σ H Q q)⟩
theorem assign_of {e : Expr} (h : notStar e = true) (es : List Expr) (env : PySem.Env) : assignEach (e :: es) env = (false, assign e env) :: assignEach es env := by
  cases e <;> first | rfl | cases h
theorem assigns_of {N : List Str} {st : Str → Bool} {env : PySem.Env} : ∀ {ts : List Pat} {xs : List Expr}, chkPs N st ts xs = true → (assignEach xs env).length = ts.length ∧ (assignEach xs env).findIdx? (·.1) = none
  | [], xs, h => by
    cases xs with
    | nil => exact ⟨rfl, rfl⟩
    | cons _ _ => simp [chkPs] at h
  | t :: ts, xs, h => by
    cases xs with
    | nil => simp [chkPs] at h
    | cons x xs =>
      simp only [chkPs, Bool.and_eq_true] at h
      obtain ⟨h1, h2⟩ := assigns_of (env := env) (ts := ts) (xs := xs) h.2
      rw [assign_of h.1.1]
      refine ⟨by rw [List.length_cons, h1, List.length_cons], ?_⟩
      rw [List.findIdx?_cons, h2] <;> rfl
section
variable {X : Cx} {st : Str → Bool}
mutual
theorem snd_pat (hN : X.N.Nodup) (hc : X.calm = true) (ok : StOk X st) : ∀ {t : Pat} {x : Expr}, chkP X.N st t x = true → PG X x (tG X.K t)
  | .nm i, x, h => by
    cases x with
    | Name y pos =>
      simp only [chkP, Bool.and_eq_true] at h
      refine PG.weak (pg_name hN (of_decide_eq_true h.1) (ok.loc _ h.2) (ok.fn _ h.2)) fun v σ H Q q => ?_
      obtain ⟨e, F, p, e', he, n, r, hb, hQ⟩ := q
      simp only [bindP, Option.some.injEq] at hb
      subst hb
      obtain ⟨F', h1, h2, h3⟩ := he.setD (Rep.imm r) i
      refine hQ _ F' h1 (h3 n) (fun a z => (h2 a z).elim (fun z => nomatch z) id) ?_
      simp only [asgP]
      exact agr_set
    | _ => simp [chkP] at h
  | .tp ts, x, h => by
    cases x with
    | Tuple xs j pos =>
      simp only [chkP] at h
      obtain ⟨a1, a2⟩ := assigns_of (env := X.env) h
      refine PG.weak (pg_tup (n := ts.length) hc (snd_pats hN hc ok h) a1 a2) fun v σ H Q q => ?_
      obtain ⟨e, F, p, e', he, n, r, hb, hQ⟩ := q
      cases p <;> simp only [bindP] at hb <;> first | (cases hb; done) | skip
      rename_i ps
      cases r with
      | @tup a xs _ s1 q1 =>
        refine ⟨a, xs, rfl, s1, ?_, e, F, ps, e', he, n, q1, hb, fun σ' F' h1 h2 h3 h4 => hQ σ' F' h1 h2 h3 (by simp only [asgP]; exact h4)⟩
        rw [q1.length]
        exact bindPs_len hb
    | _ => simp [chkP] at h
theorem snd_pats (hN : X.N.Nodup) (hc : X.calm = true) (ok : StOk X st) : ∀ {ts : List Pat} {xs : List Expr}, chkPs X.N st ts xs = true → PGs X xs (tGs X.K ts)
  | [], xs, h => by
    cases xs with
    | nil =>
      refine PGs.weak pgs_nil fun v σ H Q q => ?_
      obtain ⟨e, F, ps, e', he, n, r, hb, hQ⟩ := q
      cases ps with
      | nil =>
        cases r
        simp only [bindPs, Option.some.injEq] at hb
        subst hb
        exact ⟨rfl, hQ σ F he n (fun a z => z) (Agr.refl _ _)⟩
      | cons _ _ => simp [bindPs] at hb
    | cons _ _ => simp [chkPs] at h
  | t :: ts, xs, h => by
    cases xs with
    | nil => simp [chkPs] at h
    | cons x xs =>
      simp only [chkPs, Bool.and_eq_true] at h
      refine PGs.weak (pgs_cons (snd_pat hN hc ok h.1.2) (snd_pats hN hc ok h.2) (by rw [assign_of h.1.1] <;> rfl)) fun v σ H Q q => ?_
      obtain ⟨e, F, ps, e', he, n, r, hb, hQ⟩ := q
      cases ps with
      | nil => simp [bindPs] at hb
      | cons p ps =>
        simp only [bindPs] at hb
        obtain ⟨e1, hb1, hb2⟩ := bind_some hb
        cases r with
        | cons r1 r2 =>
          refine ⟨_, _, rfl, e, F, p, e1, he, n, r1, hb1, fun σ1 F1 h1 h2 h3 h4 => ⟨e1, F1, ps, e', h1, h2, r2, hb2, fun σ2 F2 g1 g2 g3 g4 => ?_⟩⟩
          refine hQ σ2 F2 g1 g2 (fun a z => h3 a (g3 a z)) ?_
          simp only [asgPs]
          exact (h4.mono fun j z => List.mem_append_left _ z).trans (g4.mono fun j z => List.mem_append_right _ z)
theorem bindPs_len : ∀ {ts : List Pat} {ps : List P} {e e' : En}, bindPs ts ps e = some e' → ps.length = ts.length
  | [], ps, e, e', h => by
    cases ps with
    | nil => rfl
    | cons _ _ => simp [bindPs] at h
  | t :: ts, ps, e, e', h => by
    cases ps with
    | nil => simp [bindPs] at h
    | cons p ps =>
      simp only [bindPs] at h
      obtain ⟨e1, _, h2⟩ := bind_some h
      rw [List.length_cons, List.length_cons, bindPs_len h2]
end
end
/-! ### the block's own names -/
section
variable {K : PySem.W.Frag} {H H' : Hp}
theorem EnvRep.setNN {σ : L2.St} {e : En} {F : List Addr} (h : EnvRep K H σ e F) (i : Nat) : ∃ F', EnvRep K H (σ.set i none) (e.set i none) F' ∧ (∀ a, a ∈ F' → a ∈ F) ∧ (F.Nodup → F'.Nodup) := by
  induction h generalizing i with
  | nil => exact ⟨[], .nil, fun a z => z, fun _ => List.nodup_nil⟩
  | @ns x0 σ0 e0 F0 h0 ih =>
    cases i with
    | zero => exact ⟨F0, .ns h0, fun a z => z, fun n => n⟩
    | succ i =>
      obtain ⟨F', h1, h2, h3⟩ := ih i
      exact ⟨F', .ns h1, h2, h3⟩
  | @sm v0 d0 σ0 e0 F0 G0 r0 h0 ih =>
    cases i with
    | zero => exact ⟨G0, .ns h0, fun a z => List.mem_append_right _ z, fun n => nd_right n⟩
    | succ i =>
      obtain ⟨F', h1, h2, h3⟩ := ih i
      refine ⟨F0 ++ F', .sm r0 h1, fun a z => (List.mem_append.mp z).elim (fun z => List.mem_append_left _ z) fun z => List.mem_append_right _ (h2 a z), fun n => ?_⟩
      exact nd_mk (nd_left n) (h3 (nd_right n)) fun a z y => nd_off n a z (h2 a y)
theorem EnvRep.wiped {σ : L2.St} {e : En} {F : List Addr} (h : EnvRep K H σ e F) : ∀ own : List Nat, ∃ F', EnvRep K H (wipe σ own) (wipeE e own) F' ∧ (∀ a, a ∈ F' → a ∈ F) ∧ (F.Nodup → F'.Nodup)
  | [] => ⟨F, h, fun a z => z, fun n => n⟩
  | i :: own => by
    obtain ⟨F1, h1, h2, h3⟩ := h.wiped own
    obtain ⟨F2, g1, g2, g3⟩ := h1.setNN i
    exact ⟨F2, g1, fun a z => h2 a (g2 a z), fun n => g3 (h3 n)⟩
theorem EnvRep.unset {τ : L2.St} {e : En} {F : List Addr} {i : Nat} {x : Option D} (h : EnvRep K H (τ.set i none) e F) (hx : ∀ d, x = some d → ∃ w, τ[i]? = some (some w) ∧ Rep K H w d []) : ∃ F', EnvRep K H τ (e.set i x) F' ∧ (∀ a, a ∈ F' → a ∈ F) ∧ (F.Nodup → F'.Nodup) := by
  induction τ generalizing e F i with
  | nil => cases h; exact ⟨[], .nil, fun a z => z, fun n => n⟩
  | cons y τ ih =>
    cases i with
    | zero =>
      rw [List.set_cons_zero] at h
      cases h with
      | ns h =>
        cases x with
        | none => exact ⟨F, .ns h, fun a z => z, fun n => n⟩
        | some d =>
          obtain ⟨w, h1, h2⟩ := hx d rfl
          have e1 : y = some w := by simpa using h1
          subst e1
          exact ⟨[] ++ F, .sm h2 h, fun a z => z, fun n => n⟩
    | succ i =>
      rw [List.set_cons_succ] at h
      cases h with
      | ns h =>
        obtain ⟨F', h1, h2, h3⟩ := ih h (fun d e => by obtain ⟨w, h1, h2⟩ := hx d e; exact ⟨w, by simpa using h1, h2⟩)
        exact ⟨F', .ns h1, h2, h3⟩
      | @sm v0 d0 σ0 e0 F0 G0 r0 h =>
        obtain ⟨F', h1, h2, h3⟩ := ih h (fun d e => by obtain ⟨w, h1, h2⟩ := hx d e; exact ⟨w, by simpa using h1, h2⟩)
        refine ⟨F0 ++ F', .sm r0 h1, fun a z => (List.mem_append.mp z).elim (fun z => List.mem_append_left _ z) fun z => List.mem_append_right _ (h2 a z), fun n => ?_⟩
        exact nd_mk (nd_left n) (h3 (nd_right n)) fun a z y => nd_off n a z (h2 a y)
theorem wipe_get {σ : L2.St} {i : Nat} : ∀ {own : List Nat}, i ∉ own → (wipe σ own)[i]? = σ[i]?
  | [], _ => rfl
  | j :: own, h => by
    unfold wipe
    rw [List.getElem?_set_ne (fun e => h (by rw [e]; exact List.mem_cons_self)), wipe_get fun z => h (List.mem_cons_of_mem _ z)]
theorem wipe_hit {σ : L2.St} {i : Nat} : ∀ {own : List Nat}, i ∈ own → i < σ.length → (wipe σ own)[i]? = some none
  | j :: own, h, hl => by
    unfold wipe
    by_cases c : j = i
    · subst c
      rw [List.getElem?_set_self (by rw [wipe_length]; exact hl)]
    · rw [List.getElem?_set_ne c]
      exact wipe_hit ((List.mem_cons.mp h).resolve_left fun e => c e.symm) hl
theorem wipe_agr {σ τ : L2.St} {l own : List Nat} (a : Agr l (wipe σ own) τ) (h : ∀ j, j ∈ l → j ∈ own) : wipe τ own = wipe σ own := by
  apply List.ext_getElem?
  intro j
  by_cases c : j ∈ own
  · by_cases hl : j < σ.length
    · rw [wipe_hit c hl, wipe_hit c (by rw [a.1, wipe_length]; exact hl)]
    · rw [List.getElem?_eq_none (by rw [wipe_length, a.1, wipe_length]; omega), List.getElem?_eq_none (by rw [wipe_length]; omega)]
  · rw [wipe_get c, a.2 j fun z => c (h j z)]
theorem EnvRep.put {σ : L2.St} {e0 : En} (h0 : ∀ i p, getE e0 i = some (.imm p) → ∃ w, σ[i]? = some (some w) ∧ PRep K H w p) : ∀ {own : List Nat} {e : En} {F : List Addr}, own.Nodup → EnvRep K H (wipe σ own) e F → ∃ F', EnvRep K H σ (putBack e e0 own) F' ∧ (∀ a, a ∈ F' → a ∈ F) ∧ (F.Nodup → F'.Nodup)
  | [], e, F, _, h => ⟨F, h, fun a z => z, fun n => n⟩
  | i :: own, e, F, nd, h => by
    have key : ∃ F1, EnvRep K H (wipe σ own) (e.set i (keepImm (getE e0 i))) F1 ∧ (∀ a, a ∈ F1 → a ∈ F) ∧ (F.Nodup → F1.Nodup) := by
      have c := (List.nodup_cons.mp nd).1
      refine EnvRep.unset h fun d q => ?_
      unfold keepImm at q
      split at q
      · rename_i p hp
        cases q
        obtain ⟨w, h1, h2⟩ := h0 i p hp
        exact ⟨w, by rw [wipe_get c]; exact h1, Rep.imm h2⟩
      · cases q
    obtain ⟨F1, h1, h2, h3⟩ := key
    obtain ⟨F2, g1, g2, g3⟩ := EnvRep.put h0 (List.nodup_cons.mp nd).2 h1
    exact ⟨F2, g1, fun a z => h2 a (g2 a z), fun n => g3 (h3 n)⟩
end
/-! ### comprehensions -/
theorem lock_get {os : List Opd} {e e' : En} (h : lockOk os e e' = true) : resvs e' os = resvs e os := by
  induction os with
  | nil => rfl
  | cons o os ih =>
    unfold lockOk at h
    rw [List.all_cons, Bool.and_eq_true] at h
    unfold resvs
    rw [ih h.2]
    cases o with
    | tmp d => rfl
    | slot i =>
      have h1 : getE e' i = getE e i := of_decide_eq_true h.1
      show (getE e' i).bind _ = (getE e i).bind _
      rw [h1]
theorem lock_refl (os : List Opd) (e : En) : lockOk os e e = true := by
  unfold lockOk
  rw [List.all_eq_true]
  intro o _
  cases o with
  | tmp d => rfl
  | slot i => exact decide_eq_true rfl
theorem lock_trans {os : List Opd} {e e1 e2 : En} (h : lockOk os e e1 = true) (h' : lockOk os e1 e2 = true) : lockOk os e e2 = true := by
  unfold lockOk at h h' ⊢
  rw [List.all_eq_true] at h h' ⊢
  intro o ho
  have a := h o ho
  have b := h' o ho
  cases o with
  | tmp d => rfl
  | slot i => exact decide_eq_true ((of_decide_eq_true b).trans (of_decide_eq_true a))
theorem getE_wipe {e : En} {i : Nat} : ∀ {own : List Nat}, i ∉ own → getE (wipeE e own) i = getE e i
  | [], _ => rfl
  | j :: own, h => by
    unfold wipeE
    rw [getE_set_ne _ _ (fun q => h (by rw [q]; exact List.mem_cons_self)), getE_wipe fun z => h (List.mem_cons_of_mem _ z)]
theorem free_not {os : List Opd} {own : List Nat} (h : freeOf os own = true) : ∀ i, Opd.slot i ∈ os → i ∉ own := fun i hi => by
  unfold freeOf at h
  have := List.all_eq_true.mp h _ hi
  simpa using this
theorem lock_wipe {os : List Opd} {own : List Nat} {e : En} (h : freeOf os own = true) : lockOk os e (wipeE e own) = true := by
  unfold lockOk
  rw [List.all_eq_true]
  intro o ho
  cases o with
  | tmp d => rfl
  | slot i => exact decide_eq_true (getE_wipe (free_not h i ho))
theorem ORs.slots {K : PySem.W.Frag} {H : Hp} {σ τ : L2.St} {vs : List V} {os : List Opd} {F : List Addr} (h : ORs K H σ vs os F) (a : ∀ i, Opd.slot i ∈ os → τ[i]? = σ[i]?) : ORs K H τ vs os F := by
  induction h with
  | nil => exact .nil
  | @cons v vs o os F G r _ ih =>
    refine .cons ?_ (ih fun i z => a i (List.mem_cons_of_mem _ z))
    cases o with
    | tmp d => exact r
    | slot i =>
      obtain ⟨h1, h2⟩ := (show σ[i]? = some (some v) ∧ F = [] from r)
      exact (show τ[i]? = some (some v) ∧ F = [] from ⟨by rw [a i List.mem_cons_self]; exact h1, h2⟩)
theorem PTs.weak {X : Cx} {e : List Expr} {t t' : TT} (h : PTs X e t) (w : ∀ σ H Q, t' σ H Q → t σ H Q) : PTs X e t' := ⟨fun pins s σ H Q I q => h.run pins s σ H Q I (w σ H Q q)⟩
section
variable {T : Tab} {Φ : CallS} {k : Nat} {sc : Scope} {X : Cx}
theorem snd_ptsNil : PTs X [] (tB X.K (evtests Φ T.G [])) := PTs.weak pts_nil fun σ H Q h => by
  obtain ⟨e, F, b, e', he, n, hf, hQ⟩ := h
  simp only [evtests, Option.some.injEq, Prod.mk.injEq] at hf
  obtain ⟨rfl, rfl⟩ := hf
  exact hQ H F he n (Stp.refl H F)
theorem snd_ptsOne {a : E} {x : Expr} (h : PT X x (tTst X.K (evo Φ T.G a))) : PTs X [x] (tB X.K (evtests Φ T.G [a])) := PTs.weak (pts_one h) fun σ H Q h => by
  obtain ⟨e, F, b, e', he, n, hf, hQ⟩ := h
  simp only [evtests] at hf
  obtain ⟨⟨y, e1⟩, h1, hf⟩ := bind_some hf
  obtain ⟨d, h2, hf⟩ := bind_some hf
  obtain ⟨b', h3, hf⟩ := bind_some hf
  cases hf
  exact ⟨e, F, y, _, d, _, he, n, h1, h2, h3, hQ⟩
def stepC (Φ : CallS) (G : List P) (own : List Nat) (t : Pat) (tests : List E) (elt : E) (os : List Opd) (e1 : En) (p : P) (acc : List P) (e2 : En) : Option (List P × En) :=
  (bindP t p e2).bind fun e3 => (evtests Φ G tests e3).bind fun b =>
    if b.1 then (evo Φ G elt b.2).bind fun x => (immO x.1).bind fun q => if lockOk os e1 x.2 ∧ acc.length < line then some (acc ++ [q], wipeE x.2 own) else none
    else if lockOk os e1 b.2 then some (acc, wipeE b.2 own) else none
theorem evo_cmp {own : List Nat} {t : Pat} {ik : IK} {as tests : List E} {elt : E} {e e2 : En} {r : Opd} (h : evo Φ T.G (.cmp own t ik as tests elt) e = some (r, e2)) :
    ∃ os e1 ds ps acc e9, evos Φ T.G as e = some (os, e1) ∧ resvs e1 os = some ds ∧ items ik ds = some ps ∧ freeOf os own = true ∧ compL (stepC Φ T.G own t tests elt os e1) ps [] (wipeE e1 own) = some (acc, e9) ∧ r = .tmp (.lst acc) ∧ e2 = putBack e9 e1 own := by
  simp only [evo] at h
  obtain ⟨⟨os, e1⟩, h1, h⟩ := bind_some h
  obtain ⟨ds, h2, h⟩ := bind_some h
  obtain ⟨ps, h3, h⟩ := bind_some h
  split at h
  · rename_i c
    obtain ⟨⟨acc, e9⟩, h4, h⟩ := bind_some h
    cases h
    exact ⟨os, e1, ds, ps, acc, e9, h1, h2, h3, c, h4, rfl, rfl⟩
  · cases h
/-- what a turn starts from; D the new list -/
structure CInv (K : PySem.W.Frag) (own : List Nat) (σ : L2.St) (os : List Opd) (e1 : En) (vs : List V) (D : Addr) (H0 : Hp) (F0 : List Addr) (H : Hp) (acc : List P) (e : En) : Prop where
  ex : ∃ va Fd F, H D = some (.lst va) ∧ PReps K H va acc ∧ ORs K H (wipe σ own) vs os Fd ∧ EnvRep K H (wipe σ own) e F ∧ (D :: (Fd ++ F)).Nodup ∧ Stp H0 F0 H (D :: (Fd ++ F)) ∧ Keeps H0 H
  lock : lockOk os e1 e = true
theorem lay_list {H : Hp} {D : Addr} {xs : List V} {F : List Addr} (h : H D = none) (m : MutF H F) (n : F.Nodup) : Stp H F (upd H D (.lst xs)) (D :: F) ∧ (D :: F).Nodup :=
  ⟨⟨fun a o e z => by rw [upd_ne (fun y : a = D => by rw [y, h] at e; cases e)]; exact e, fun a z => (List.mem_cons.mp z).elim (fun y => .inr (by rw [y]; exact h)) .inl⟩,
    List.nodup_cons.mpr ⟨(fun z => by obtain ⟨o, e, _⟩ := m D z; rw [h] at e; cases e), n⟩⟩
theorem upd_keeps {H : Hp} {D : Addr} {va : List V} {o : HO} (h : H D = some (.lst va)) : Keeps H (upd H D o) := fun a u e st => by
  rw [upd_ne (fun y : a = D => by subst y; rw [h] at e; cases e; exact st trivial)]
  exact e
theorem stp_pick {H H' : Hp} {F G G' : List Addr} (s : Stp H F H' G) (h : ∀ a ∈ G', a ∈ G) : Stp H F H' G' := s.less (fun a z => z) h
theorem lcmp_reads {own : List Nat} {t : Pat} {ik : IK} {as tests : List E} {elt : E} {ow : List (Str × Nat)} {σ : L2.St} {H : Hp} {Q : VK} (how : ow.map (·.2) = own) (hon : own.Nodup) (hat : ∀ j ∈ asgP t, j ∈ own) (h : tO X.K (evo Φ T.G (.cmp own t ik as tests elt)) σ H Q) :
    tLc (tI X.K ik (evos Φ T.G as)) (tG X.K t) (tB X.K (evtests Φ T.G tests)) (tO X.K (evo Φ T.G elt)) (ow.map (·.2)) σ H Q := by
  subst how
  obtain ⟨e, F, o, e', he0, n0, hf, hQ⟩ := h
  obtain ⟨os, e1, ds, ps, accF, e9, h1, h2, h3, hfree, hL, rfl, rfl⟩ := evo_cmp hf
  refine ⟨e, F, os, e1, ds, ps, he0, n0, h1, h2, h3, fun J vs H1 Fd F1 ors he1 n1 s1 walk => ?_⟩
  intro D hD
  generalize hown : ow.map (·.2) = own at *
  have orsW : ORs X.K H1 (wipe σ own) vs os Fd := ors.slots fun i z => wipe_get (free_not hfree i z)
  obtain ⟨FW, w1, w2, w3⟩ := he1.wiped own
  have nW : (Fd ++ FW).Nodup := nd_mk (nd_left n1) (w3 (nd_right n1)) fun a z y => nd_off n1 a z (w2 a y)
  have sW : Stp H F H1 (Fd ++ FW) := stp_pick s1 fun a z => (List.mem_append.mp z).elim (fun z => List.mem_append_left _ z) fun z => List.mem_append_right _ (w2 a z)
  have smD : Same H1 (upd H1 D (.lst [])) := same_new hD
  obtain ⟨sD, nD⟩ := lay_list (xs := []) hD (orsW.mut.append w1.mut) nW
  have start : CInv X.K own σ os e1 vs D H F (upd H1 D (.lst [])) [] (wipeE e1 own) :=
    ⟨⟨[], Fd, FW, upd_same, .nil, orsW.mono (Keeps.of_same smD) (same_off smD orsW.mut), w1.same smD, nD, sW.trans sD, (sW.keeps he0.mut).trans (Keeps.of_same smD)⟩, lock_wipe hfree⟩
  refine lc_it walk (fun i H' => ∃ acc ei, CInv X.K own σ os e1 vs D H F H' acc ei ∧ Keeps H1 H' ∧ compL (stepC Φ T.G own t tests elt os e1) (ps.drop i) acc ei = some (accF, e9)) ⟨[], _, start, Keeps.of_same smD, by rw [List.drop_zero]; exact hL⟩ (fun i H' hi hp => ?_) (fun i y H2 H3 hi hp hy => ?_) (fun H' hp => ?_)
  · obtain ⟨acc, ei, ⟨⟨va, Gd, Fi, c1, c2, c3, c4, c5, c6, _⟩, lk⟩, _, _⟩ := hp
    exact resvs_ok c4 c3 (by rw [lock_get lk]; exact h2)
  · obtain ⟨acc, ei, ⟨⟨va, Gd, Fi, c1, c2, c3, c4, c5, c6, c7⟩, lk⟩, kp0, hl⟩ := hp
    obtain ⟨sm, p, hp1, hp2⟩ := hy
    have hdr : ps.drop i = p :: ps.drop (i + 1) := by
      obtain ⟨hlt, e⟩ := List.getElem?_eq_some_iff.mp hp1
      rw [List.drop_eq_getElem_cons hlt, e]
    rw [hdr] at hl
    unfold compL at hl
    obtain ⟨⟨acc', e3⟩, hs, hl⟩ := bind_some hl
    unfold stepC at hs
    obtain ⟨eb, hs1, hs⟩ := bind_some hs
    obtain ⟨⟨b, e4⟩, hs2, hs⟩ := bind_some hs
    have c4' := c4.same sm
    have nGF := (List.nodup_cons.mp c5).2
    have dn := (List.nodup_cons.mp c5).1
    refine ⟨ei, Fi, p, eb, c4', nd_right nGF, hp2, hs1, fun σ2 F2 g1 g2 g3 g4 => ⟨wipe_agr g4 hat, eb, F2, b, e4, g1, g2, hs2, fun H4 F4 k1 k2 k3 => ?_⟩⟩
    have hwp : wipe σ2 own = wipe σ own := wipe_agr g4 hat
    have mF2 : MutF H3 F2 := g1.mut
    have nF2 : ∀ a, a ∈ F2 → a ∈ Fi := g3
    have mD : MutF H3 (D :: Gd) := fun a z => (List.mem_cons.mp z).elim (fun y => by rw [y]; exact ⟨_, sm _ _ c1, trivial⟩) fun y => by
      obtain ⟨o, q1, q2⟩ := c3.mut a y
      exact ⟨o, sm _ _ q1, q2⟩
    have off1 : ∀ a ∈ D :: Gd, a ∉ F2 := fun a z y => (List.mem_cons.mp z).elim (fun w => dn (by rw [← w]; exact List.mem_append_right _ (nF2 a y))) fun w => nd_off nGF a w (nF2 a y)
    have kp3 : Keeps H3 H4 := k3.keeps mF2
    have off4 := k3.off mD off1
    have ap4 := k3.apart mD off1
    have d4 : H4 D = some (.lst va) := by rw [off4 D List.mem_cons_self]; exact sm _ _ c1
    have r4 : PReps X.K H4 va acc := (c2.keep (Keeps.of_same sm)).keep kp3
    have o4 : ORs X.K H4 (wipe σ own) vs os Gd := (c3.mono (Keeps.of_same sm) (same_off sm c3.mut)).mono kp3 fun a z => off4 a (List.mem_cons_of_mem _ z)
    -- the step so far
    have st4 : Stp H F H4 (D :: (Gd ++ F4)) := by
      have a1 : Stp H F H3 (D :: (Gd ++ Fi)) := c6.trans (Stp.of_same sm)
      have a2 : Stp H F H3 ((D :: Gd) ++ F2) := stp_pick a1 fun a z => (List.mem_append.mp z).elim (fun z => (List.mem_cons.mp z).elim (fun y => by rw [y]; exact List.mem_cons_self) fun y => List.mem_cons_of_mem _ (List.mem_append_left _ y)) fun z => List.mem_cons_of_mem _ (List.mem_append_right _ (nF2 a z))
      exact a2.trans (k3.frameL (D :: Gd))
    have nD4 : (D :: (Gd ++ F4)).Nodup := by
      have : ((D :: Gd) ++ F4).Nodup := nd_mk (List.nodup_cons.mpr ⟨fun z => dn (List.mem_append_left _ z), nd_left nGF⟩) k2 ap4
      exact this
    cases b with
    | false =>
      dsimp only
      rw [if_neg Bool.false_ne_true] at hs ⊢
      split at hs
      · rename_i lk2
        cases hs
        obtain ⟨F5, m1, m2, m3⟩ := k1.wiped own
        rw [hwp] at m1
        refine ⟨acc, _, ⟨⟨va, Gd, F5, d4, r4, o4, m1, ?_, stp_pick st4 ?_, (c7.trans (Keeps.of_same sm)).trans kp3⟩, lock_trans lk2 (lock_wipe hfree)⟩, (kp0.trans (Keeps.of_same sm)).trans kp3, hl⟩
        · refine List.nodup_cons.mpr ⟨fun z => ?_, nd_mk (nd_left nGF) (m3 k2) fun a z y => ?_⟩
          · rcases List.mem_append.mp z with z | z
            · exact dn (List.mem_append_left _ z)
            · exact ap4 D List.mem_cons_self (m2 D z)
          · exact ap4 a (List.mem_cons_of_mem _ z) (m2 a y)
        · intro a z
          rcases List.mem_cons.mp z with z | z
          · rw [z]; exact List.mem_cons_self
          · rcases List.mem_append.mp z with z | z
            · exact List.mem_cons_of_mem _ (List.mem_append_left _ z)
            · exact List.mem_cons_of_mem _ (List.mem_append_right _ (m2 a z))
      · cases hs
    | true =>
      dsimp only
      rw [if_pos rfl] at hs ⊢
      obtain ⟨⟨z, e5⟩, hs3, hs⟩ := bind_some hs
      obtain ⟨q, hs4, hs⟩ := bind_some hs
      split at hs
      · rename_i lk2
        obtain ⟨lk2, room⟩ := lk2
        cases hs
        refine tO_mk k1 k2 hs3 fun y5 H5 Fy F5 oy he5 n5 s5 => ?_
        obtain ⟨py, rfl⟩ := immO_ok oy hs4
        rw [List.nil_append] at n5 s5
        have mD4 : MutF H4 (D :: Gd) := fun a z => (List.mem_cons.mp z).elim (fun y => by rw [y]; exact ⟨_, d4, trivial⟩) fun y => o4.mut a y
        have kp5 : Keeps H4 H5 := s5.keeps k1.mut
        have off5 := s5.off mD4 ap4
        have ap5 := s5.apart mD4 ap4
        have d5 : H5 D = some (.lst va) := by rw [off5 D List.mem_cons_self]; exact d4
        have r5 := r4.keep kp5
        have o5 : ORs X.K H5 (wipe σ own) vs os Gd := o4.mono kp5 fun a z => off5 a (List.mem_cons_of_mem _ z)
        have kpu : Keeps H5 (upd H5 D (.lst (va ++ [y5]))) := upd_keeps d5
        obtain ⟨F6, m1, m2, m3⟩ := he5.wiped own
        rw [hwp] at m1
        have dF6 : D ∉ F6 := fun z => ap5 D List.mem_cons_self (m2 D z)
        have dGd : D ∉ Gd := fun z => dn (List.mem_append_left _ z)
        refine ⟨va, d5, by rw [r5.length]; exact lt_line room, acc ++ [q], _, ⟨⟨va ++ [y5], Gd, F6, upd_same, (r5.append (.cons py .nil)).keep kpu, o5.mono kpu fun a z => upd_ne fun y => dGd (by rw [← y]; exact z),
          m1.mono kpu fun a z => upd_ne fun y => dF6 (by rw [← y]; exact z), ?_, ?_, (((c7.trans (Keeps.of_same sm)).trans kp3).trans kp5).trans kpu⟩, lock_trans lk2 (lock_wipe hfree)⟩, (((kp0.trans (Keeps.of_same sm)).trans kp3).trans kp5).trans kpu, hl⟩
        · refine List.nodup_cons.mpr ⟨fun z => (List.mem_append.mp z).elim dGd dF6, nd_mk (nd_left nGF) (m3 n5) fun a z y => ap5 a (List.mem_cons_of_mem _ z) (m2 a y)⟩
        · have a3 : Stp H F H5 ((D :: Gd) ++ F5) := (show Stp H F H4 ((D :: Gd) ++ F4) from st4).trans (s5.frameL (D :: Gd))
          have a4 : Stp H5 ((D :: Gd) ++ F5) (upd H5 D (.lst (va ++ [y5]))) ((D :: Gd) ++ F5) := lock_stp (List.mem_append_left _ List.mem_cons_self) fun b z => z
          refine stp_pick (a3.trans a4) fun a z => ?_
          rcases List.mem_cons.mp z with z | z
          · rw [z]; exact List.mem_append_left _ List.mem_cons_self
          · rcases List.mem_append.mp z with z | z
            · exact List.mem_append_left _ (List.mem_cons_of_mem _ z)
            · exact List.mem_append_right _ (m2 a z)
      · cases hs
  · obtain ⟨acc, ei, ⟨⟨va, Gd, Fi, c1, c2, c3, c4, c5, c6, c7⟩, lk⟩, kp0, hl⟩ := hp
    rw [List.drop_length] at hl
    unfold compL at hl
    cases hl
    have dn := (List.nodup_cons.mp c5).1
    obtain ⟨F9, m1, m2, m3⟩ := EnvRep.put (e0 := e1) (fun i p hp => by
      obtain ⟨w, Fi', q1, q2, _⟩ := he1.get hp
      obtain ⟨q3, _⟩ := q2.imm_of
      exact ⟨w, q1, q3.keep kp0⟩) hon c4
    refine hQ (.ref D) H' [D] F9 (Rep.lst c1 c2) m1 ?_ (stp_pick c6 fun a z => ?_)
    · exact List.nodup_cons.mpr ⟨fun z => dn (List.mem_append_right _ (m2 D z)), m3 (nd_right (List.nodup_cons.mp c5).2)⟩
    · rcases List.mem_cons.mp z with z | z
      · rw [z]; exact List.mem_cons_self
      · exact List.mem_cons_of_mem _ (List.mem_append_right _ (m2 a z))
theorem snd_lcmp {own : List Nat} {t : Pat} {ik : IK} {as tests : List E} {elt : E} {x tg iter : Expr} {ifs : List Expr} {scope : Scope} {ow : List (Str × Nat)} {pos : Pos} (g : Good T Φ k sc X)
    (how : ow.map (·.2) = own) (hon : own.Nodup) (hb : BlkOk X.N X.env.scope scope ow) (hset : notSet iter = true) (hi : PI X tg iter (tI X.K ik (evos Φ T.G as))) (hat : ∀ j ∈ asgP t, j ∈ own)
    (hg : ∀ (s : Shared) (H : Hp) (C : Addr) (cl : List (Str × Addr)) (fp : List Addr), PG (X.blk s H scope (compEnvC scope cl C X.env) fp) tg (tG X.K t))
    (ht : ∀ (s : Shared) (H : Hp) (C : Addr) (cl : List (Str × Addr)) (fp : List Addr), PTs (X.blk s H scope (compEnvC scope cl C X.env) fp) ifs (tB X.K (evtests Φ T.G tests)))
    (he : ∀ (s : Shared) (H : Hp) (C : Addr) (cl : List (Str × Addr)) (fp : List Addr), PE (X.blk s H scope (compEnvC scope cl C X.env) fp) x (tO X.K (evo Φ T.G elt))) :
    PE X (.ListComp x [⟨tg, iter, ifs, 0⟩] scope pos) (tO X.K (evo Φ T.G (.cmp own t ik as tests elt))) :=
  PE.weak (pe_lc g.calm (by rw [g.N]; exact g.nd) hi hb hg ht he (notSet_of hset _)) fun σ H Q h => lcmp_reads how hon hat h

end
end Sw
set_option maxHeartbeats 1000000
/-! Sw, part 17: soundness of expressions. -/
namespace Sw
open PySem PySem.Spec PyProof.Rows L2
theorem and2 {a b : Bool} (h : (a && b) = true) : a = true ∧ b = true := (Bool.and_eq_true _ _).mp h
theorem relS_vis {scope sc : Scope} : (relS scope sc).kind = scope.kind := rfl
theorem Good.blk {T : Tab} {Φ : CallS} {k : Nat} {sc : Scope} {X : Cx} (g : Good T Φ k sc X) (s : Shared) (H : Hp) (scope : Scope) (C : Addr) (cl : List (Str × Addr)) (fp : List Addr) : Good T Φ k (relS scope sc) (X.blk s H scope (compEnvC scope cl C X.env) fp) :=
  ⟨g.N, g.nd, g.calm, g.room, by rw [← g.scope]; rfl, g.glos, g.fns, g.blt⟩
theorem stOk_blk {X : Cx} (s : Shared) (H : Hp) (scope : Scope) (C : Addr) (cl : List (Str × Addr)) (fp : List Addr) : StOk (X.blk s H scope (compEnvC scope cl C X.env) fp) (stB scope) := by
  refine ⟨fun x h => ?_, fun x h => ?_⟩
  · unfold stB at h
    rw [Bool.or_eq_true] at h
    rcases h with h | h
    · exact .inl (lookup_relS_keep (by decide) (look_of h))
    · exact .inr (lookup_relS_keep (by decide) (look_of h))
  · unfold stB at h
    rw [Bool.or_eq_true] at h
    rcases h with h | h
    · exact .inr (lookup_relS_keep (by decide) (look_of h))
    · refine .inl ?_
      show (scope.names.lookup x == some NameKind.cell) = true
      rw [look_of h] <;> rfl
structure SndE (T : Tab) (Φ : CallS) (X : Cx) (a : E) (x : Expr) : Prop where
  pe : PE X x (tO X.K (evo Φ T.G a))
  pt : tstB a = true → PT X x (tTst X.K (evo Φ T.G a))
structure SndL (T : Tab) (Φ : CallS) (X : Cx) (as : List E) (xs : List Expr) : Prop where
  pa : PA X xs (tOs X.K (evos Φ T.G as))
  and : ∀ pos, xs ≠ [] → PE X (.BoolOp .And xs pos) (tO X.K (evand Φ T.G as))
  or : ∀ pos, xs ≠ [] → PE X (.BoolOp .Or xs pos) (tO X.K (evor Φ T.G as))
  wand : ∀ pos, xs ≠ [] → tstBs as = true → PW X (.BoolOp .And xs pos) (tTst X.K (evand Φ T.G as))
  wor : ∀ pos, xs ≠ [] → tstBs as = true → PW X (.BoolOp .Or xs pos) (tTst X.K (evor Φ T.G as))
  one : ∀ a x, as = [a] → xs = [x] → SndE T Φ X a x
  two : ∀ a b x y, as = [a, b] → xs = [x, y] → SndE T Φ X a x ∧ SndE T Φ X b y
theorem SndL.pts {T : Tab} {Φ : CallS} {X : Cx} {as : List E} {xs : List Expr} (h : SndL T Φ X as xs) (hl : as.length = xs.length) (h1 : as.length ≤ 1) (h2 : tstBs as = true) : PTs X xs (tB X.K (evtests Φ T.G as)) := by
  match as, xs, hl, h1, h2, h with
  | [], [], _, _, _, _ => exact snd_ptsNil
  | [a], [x], _, _, h2, h =>
    have h2 : (tstB a && true) = true := h2
    exact snd_ptsOne ((h.one a x rfl rfl).pt (and2 h2).1)
  | _ :: _ :: _, _, _, h1, _, _ => exact absurd h1 (by simp)
theorem noneC_of {e : Expr} (h : isNoneC e = true) : ∃ j p, e = .Constant .none j p := by
  unfold isNoneC at h
  split at h
  · exact ⟨_, _, rfl⟩
  · cases h
section
variable {T : Tab} {Φ : CallS} {k : Nat}
theorem SndE.plain {X : Cx} {a : E} {x : Expr} (h : PE X x (tO X.K (evo Φ T.G a))) (hp : plainTest x = true) : SndE T Φ X a x := ⟨h, fun _ => snd_tst hp h⟩
theorem two_of {sc : Scope} {es : List E} {x y : Expr} (h : chkEs T sc es [x, y] = true) : ∃ a b, es = [a, b] := by
  cases es with
  | nil => cases chkEs_len h
  | cons a es =>
    cases es with
    | nil => cases chkEs_len h
    | cons b es =>
      cases es with
      | nil => exact ⟨a, b, rfl⟩
      | cons _ _ => have := chkEs_len h; simp at this
theorem one_of {sc : Scope} {es : List E} {x : Expr} (h : chkEs T sc es [x] = true) : ∃ a, es = [a] := by
  cases es with
  | nil => cases chkEs_len h
  | cons a es =>
    cases es with
    | nil => exact ⟨a, rfl⟩
    | cons _ _ => have := chkEs_len h; simp at this
theorem last_of {p q : CmpOp} {y z : Expr} (h : notSet z = true) : lastMarks [p, q] [y, z] = false := by
  cases z <;> first | rfl | cases h
theorem ne_of_isEmpty {α : Type} {l : List α} (h : (!l.isEmpty) = true) : l ≠ [] := by
  intro e
  subst e
  cases h
theorem evo_and_reads {K : PySem.W.Frag} {es : List E} {σ : L2.St} {H : Hp} {Q : VK} (h : tO K (evo Φ T.G (.and es)) σ H Q) : tO K (evand Φ T.G es) σ H Q := by
  obtain ⟨e, F, o, e', he, n, hf, hQ⟩ := h
  rw [evo] at hf
  exact ⟨e, F, o, e', he, n, hf, hQ⟩
theorem evo_or_reads {K : PySem.W.Frag} {es : List E} {σ : L2.St} {H : Hp} {Q : VK} (h : tO K (evo Φ T.G (.or es)) σ H Q) : tO K (evor Φ T.G es) σ H Q := by
  obtain ⟨e, F, o, e', he, n, hf, hQ⟩ := h
  rw [evo] at hf
  exact ⟨e, F, o, e', he, n, hf, hQ⟩
theorem evo_and_readsT {K : PySem.W.Frag} {es : List E} {σ : L2.St} {H : Hp} {Q : Bool → Hp → Prop} (h : tTst K (evo Φ T.G (.and es)) σ H Q) : tTst K (evand Φ T.G es) σ H Q := by
  obtain ⟨e, F, o, e', d, b, he, n, hf, hQ⟩ := h
  rw [evo] at hf
  exact ⟨e, F, o, e', d, b, he, n, hf, hQ⟩
theorem evo_or_readsT {K : PySem.W.Frag} {es : List E} {σ : L2.St} {H : Hp} {Q : Bool → Hp → Prop} (h : tTst K (evo Φ T.G (.or es)) σ H Q) : tTst K (evor Φ T.G es) σ H Q := by
  obtain ⟨e, F, o, e', d, b, he, n, hf, hQ⟩ := h
  rw [evo] at hf
  exact ⟨e, F, o, e', d, b, he, n, hf, hQ⟩
theorem own_map (N : List Str) : ∀ own : List Nat, (ownN N own).map (·.2) = own
  | [] => rfl
  | i :: own => by
    have := own_map N own
    unfold ownN at this ⊢
    rw [List.map_cons, List.map_cons, this]
mutual
theorem chkE_star : ∀ {a : E} {sc : Scope} {x : Expr}, chkE T sc a x = true → notStar x = true
  | .frz a, sc, x, h => by simp only [chkE] at h; exact chkE_star (a := a) h
  | .nm i, sc, x, h => by cases x <;> first | rfl | simp [chkE] at h
  | .cst i, sc, x, h => by cases x <;> first | rfl | simp [chkE] at h
  | .glo i, sc, x, h => by cases x <;> first | rfl | simp [chkE] at h
  | .mv i, sc, x, h => by cases x <;> first | rfl | simp [chkE] at h
  | .tup i, sc, x, h => by cases x <;> first | rfl | simp [chkE] at h
  | .lst i, sc, x, h => by cases x <;> first | rfl | simp [chkE] at h
  | .op o i, sc, x, h => by cases x <;> first | rfl | simp [chkE] at h
  | .mth o a i, sc, x, h => by cases x <;> first | rfl | simp [chkE] at h
  | .chain _ _ _ _ _, sc, x, h => by cases x <;> first | rfl | simp [chkE] at h
  | .and i, sc, x, h => by cases x <;> first | rfl | simp [chkE] at h
  | .or i, sc, x, h => by cases x <;> first | rfl | simp [chkE] at h
  | .not i, sc, x, h => by cases x <;> first | rfl | simp [chkE] at h
  | .ife _ _ _, sc, x, h => by cases x <;> first | rfl | simp [chkE] at h
  | .slc _ _ _, sc, x, h => by cases x <;> first | rfl | simp [chkE] at h
  | .mut _ _ _, sc, x, h => by cases x <;> first | rfl | simp [chkE] at h
  | .call _ _, sc, x, h => by cases x <;> first | rfl | simp [chkE] at h
  | .cmp _ _ _ _ _ _, sc, x, h => by cases x <;> first | rfl | simp [chkE] at h
  | .cmp2 _ _ _ _ _ _ _ _ _ _ _, sc, x, h => by simp [chkE] at h
end
mutual
theorem snd1 : ∀ (a : E) {X : Cx} {sc : Scope}, Good T Φ k sc X → ∀ {x : Expr}, chkE T sc a x = true → SndE T Φ X a x
  | .nm i, X, sc, g, x, h => by
    cases x <;> simp only [chkE] at h <;> first | (cases h; done) | skip
    exact .plain (snd_nm g h) rfl
  | .cst p, X, sc, g, x, h => by
    cases x <;> simp only [chkE] at h <;> first | (cases h; done) | skip
    exact .plain (snd_cst h) rfl
  | .glo j, X, sc, g, x, h => by
    cases x <;> simp only [chkE] at h <;> first | (cases h; done) | skip
    exact .plain (snd_glo g (and2 h).1 (of_decide_eq_true (and2 h).2)) rfl
  | .mv i, X, sc, g, x, h => by
    cases x <;> simp only [chkE] at h <;> first | (cases h; done) | skip
    exact .plain (snd_mv g h) rfl
  | .tup es, X, sc, g, x, h => by
    cases x <;> simp only [chkE] at h <;> first | (cases h; done) | skip
    exact .plain (snd_tup (snds es g h).pa) rfl
  | .lst es, X, sc, g, x, h => by
    cases x <;> simp only [chkE] at h <;> first | (cases h; done) | skip
    exact .plain (snd_lst (snds es g h).pa) rfl
  | .op o es, X, sc, g, x, h => by
    have ind := fun {xs : List Expr} (h : chkEs T sc es xs = true) => snds es g h
    cases x <;> simp only [chkE] at h <;> first | (cases h; done) | skip
    · -- binary
      obtain ⟨h1, h2⟩ := and2 h
      obtain ⟨a, b, rfl⟩ := two_of h2
      obtain ⟨ra, rb⟩ := (ind h2).two a b _ _ rfl rfl
      exact .plain (snd_bin g (of_decide_eq_true h1) ra.pe rb.pe) rfl
    · -- unary
      obtain ⟨h1, h2⟩ := and2 h
      obtain ⟨h3, h4⟩ := and2 h1
      obtain rfl := of_decide_eq_true h3
      obtain rfl := of_decide_eq_true h4
      obtain ⟨a, rfl⟩ := one_of h2
      exact ⟨snd_neg ((ind h2).one a _ rfl rfl).pe, fun z => by simp [tstB] at z⟩
    · -- comparison
      split at h
      · rcases (Bool.or_eq_true _ _).mp h with h | h
        · obtain ⟨h1, h2⟩ := and2 h
          obtain ⟨h3, h4⟩ := and2 h1
          have h3 := of_decide_eq_true h3
          obtain ⟨a, b, rfl⟩ := two_of h2
          obtain ⟨ra, rb⟩ := (ind h2).two a b _ _ rfl rfl
          exact ⟨snd_cmp g h3 h4 ra.pe rb.pe, fun _ => snd_tcmp g h3 h4 ra.pe rb.pe⟩
        · obtain ⟨h1, h2⟩ := and2 h
          obtain ⟨h3, h4⟩ := and2 h1
          obtain ⟨j, p, rfl⟩ := noneC_of h3
          obtain ⟨a, rfl⟩ := one_of h2
          have ra := (ind h2).one a _ rfl rfl
          rcases (Bool.or_eq_true _ _).mp h4 with h | h
          · obtain ⟨h5, h6⟩ := and2 h
            obtain rfl := of_decide_eq_true h5
            obtain rfl := of_decide_eq_true h6
            exact ⟨snd_isN ra.pe, fun _ => snd_tisN ra.pe⟩
          · obtain ⟨h5, h6⟩ := and2 h
            obtain rfl := of_decide_eq_true h5
            obtain rfl := of_decide_eq_true h6
            exact ⟨snd_notN ra.pe, fun _ => snd_tnotN ra.pe⟩
      · cases h
    · -- a call of a built-in
      rename_i f args kws pos
      split at h <;> first | (cases h; done) | skip
      rename_i y p
      split at h
      · rename_i ts
        obtain ⟨h1, h2⟩ := and2 h
        obtain ⟨h3, h4⟩ := and2 h1
        obtain rfl := of_decide_eq_true h3
        split at h2 <;> first | (cases h2; done) | skip
        rename_i u w
        obtain ⟨h5, h6⟩ := and2 h2
        obtain ⟨h7, h8⟩ := and2 h5
        obtain ⟨h9, h10⟩ := and2 h7
        obtain ⟨a, rfl⟩ := one_of h8
        have ra := (ind h8).one a _ rfl rfl
        split at h6
        · obtain ⟨h11, h12⟩ := and2 h6
          exact .plain (snd_isiT g h4 h9 h12 (of_decide_eq_true h11) ra.pe) rfl
        · split at h6
          · exact .plain (snd_isi1 g h4 h9 h6 ra.pe) rfl
          · cases h6
      · split at h
        · rename_i z fv n hb
          obtain ⟨h1, h2⟩ := and2 h
          obtain ⟨h3, h4⟩ := and2 h1
          obtain ⟨h5, h6⟩ := and2 h3
          obtain rfl := of_decide_eq_true h5
          exact .plain (snd_blt g hb h6 (of_decide_eq_true h4) (chkEs_star h2) (ind h2).pa) rfl
        · cases h
    · -- subscripts
      split at h
      · split at h
        · obtain ⟨h1, h2⟩ := and2 h
          obtain ⟨h3, h4⟩ := and2 h1
          obtain rfl := of_decide_eq_true h4
          obtain ⟨a, rfl⟩ := one_of h2
          exact .plain (snd_rev h3 ((ind h2).one a _ rfl rfl).pe) rfl
        · cases h
      · obtain ⟨h1, h2⟩ := and2 h
        obtain ⟨h3, h4⟩ := and2 h1
        obtain rfl := of_decide_eq_true h3
        obtain ⟨a, b, rfl⟩ := two_of h2
        obtain ⟨ra, rb⟩ := (ind h2).two a b _ _ rfl rfl
        exact .plain (snd_idx h4 ra.pe rb.pe) rfl
  | .mth o a es, X, sc, g, x, h => by
    have ia := fun {y : Expr} (h : chkE T sc a y = true) => snd1 a g h
    have ind := fun {xs : List Expr} (h : chkEs T sc es xs = true) => snds es g h
    cases x <;> simp only [chkE] at h <;> first | (cases h; done) | skip
    split at h <;> first | (cases h; done) | skip
    split at h <;> first | (cases h; done) | skip
    rename_i hm
    obtain ⟨h1, h2⟩ := and2 h
    obtain ⟨h3, h4⟩ := and2 h1
    obtain ⟨h5, h6⟩ := and2 h3
    obtain ⟨h7, h8⟩ := and2 h5
    obtain ⟨h9, h10⟩ := and2 h7
    obtain ⟨h11, h12⟩ := and2 h9
    obtain rfl := of_decide_eq_true h11
    exact .plain (snd_mth g hm (of_decide_eq_true h12) h10 h8 (chkEs_star h2) (ia h4).pe (ind h2).pa) rfl
  | .chain o1 o2 a b c, X, sc, g, x, h => by
    have ia := fun {y : Expr} (h : chkE T sc a y = true) => snd1 a g h
    have ib := fun {y : Expr} (h : chkE T sc b y = true) => snd1 b g h
    have ic := fun {y : Expr} (h : chkE T sc c y = true) => snd1 c g h
    cases x <;> simp only [chkE] at h <;> first | (cases h; done) | skip
    split at h <;> first | (cases h; done) | skip
    rename_i p q y z
    obtain ⟨h1, h2⟩ := and2 h
    obtain ⟨h3, h4⟩ := and2 h1
    obtain ⟨h5, h6⟩ := and2 h3
    obtain ⟨h7, h8⟩ := and2 h5
    obtain ⟨h9, h10⟩ := and2 h7
    obtain ⟨h11, h12⟩ := and2 h9
    obtain ⟨h13, h14⟩ := and2 h11
    obtain ⟨h15, h16⟩ := and2 h13
    obtain ⟨h17, h18⟩ := and2 h15
    have hp := of_decide_eq_true h17
    have hq := of_decide_eq_true h18
    have hm : lastMarks [p, q] [y, z] = false := last_of h14
    exact ⟨snd_chain g hp hq hm (ia h6).pe (ib h4).pe (ic h2).pe, fun _ => snd_tchain g hp hq hm (ia h6).pe (ib h4).pe (ic h2).pe⟩
  | .and es, X, sc, g, x, h => by
    have ind := fun {xs : List Expr} (h : chkEs T sc es xs = true) => snds es g h
    cases x <;> simp only [chkE] at h <;> first | (cases h; done) | skip
    obtain ⟨h1, h2⟩ := and2 h
    obtain ⟨h3, h4⟩ := and2 h1
    obtain rfl := of_decide_eq_true h3
    have ne := ne_of_isEmpty h4
    have r := ind h2
    exact ⟨PE.weak (r.and _ ne) fun σ H Q => evo_and_reads, fun ht => PT.weak (r.wand _ ne ht).pt fun σ H Q => evo_and_readsT⟩
  | .or es, X, sc, g, x, h => by
    have ind := fun {xs : List Expr} (h : chkEs T sc es xs = true) => snds es g h
    cases x <;> simp only [chkE] at h <;> first | (cases h; done) | skip
    obtain ⟨h1, h2⟩ := and2 h
    obtain ⟨h3, h4⟩ := and2 h1
    obtain rfl := of_decide_eq_true h3
    have ne := ne_of_isEmpty h4
    have r := ind h2
    exact ⟨PE.weak (r.or _ ne) fun σ H Q => evo_or_reads, fun ht => PT.weak (r.wor _ ne ht).pt fun σ H Q => evo_or_readsT⟩
  | .not a, X, sc, g, x, h => by
    have ia := fun {y : Expr} (h : chkE T sc a y = true) => snd1 a g h
    cases x <;> simp only [chkE] at h <;> first | (cases h; done) | skip
    obtain ⟨h1, h2⟩ := and2 h
    obtain ⟨h3, h4⟩ := and2 h1
    obtain rfl := of_decide_eq_true h3
    exact ⟨snd_not (ia h4).pe, fun _ => snd_tnot ((ia h4).pt h2)⟩
  | .ife t a b, X, sc, g, x, h => by
    have it := fun {y : Expr} (h : chkE T sc t y = true) => snd1 t g h
    have ia := fun {y : Expr} (h : chkE T sc a y = true) => snd1 a g h
    have ib := fun {y : Expr} (h : chkE T sc b y = true) => snd1 b g h
    cases x <;> simp only [chkE] at h <;> first | (cases h; done) | skip
    obtain ⟨h1, h2⟩ := and2 h
    obtain ⟨h3, h4⟩ := and2 h1
    obtain ⟨h5, h6⟩ := and2 h3
    exact ⟨snd_ife ((it h5).pt h6) (ia h4).pe (ib h2).pe, fun z => by simp [tstB] at z⟩
  | .slc a lo hi, X, sc, g, x, h => by
    have ia := fun {y : Expr} (h : chkE T sc a y = true) => snd1 a g h
    have il := fun {y : Option Expr} (h : chkO T sc lo y = true) => sndo lo g h
    have ih := fun {y : Option Expr} (h : chkO T sc hi y = true) => sndo hi g h
    cases x <;> simp only [chkE] at h <;> first | (cases h; done) | skip
    split at h <;> first | (cases h; done) | skip
    split at h <;> first | (cases h; done) | skip
    obtain ⟨h1, h2⟩ := and2 h
    obtain ⟨h3, h4⟩ := and2 h1
    exact .plain (snd_slc (ia h3).pe (il h4) (ih h2)) rfl
  | .mut m i es, X, sc, g, x, h => by
    have ind := fun {xs : List Expr} (h : chkEs T sc es xs = true) => snds es g h
    cases x <;> simp only [chkE] at h <;> first | (cases h; done) | skip
    split at h <;> first | (cases h; done) | skip
    split at h <;> first | (cases h; done) | skip
    obtain ⟨h1, h2⟩ := and2 h
    obtain ⟨h3, h4⟩ := and2 h1
    obtain ⟨h5, h6⟩ := and2 h3
    obtain ⟨h7, h8⟩ := and2 h5
    obtain rfl := of_decide_eq_true h8
    exact .plain (snd_mut g h7 h6 (of_decide_eq_true h4) (chkEs_star h2) (chkEs_len h2) (ind h2).pa) rfl
  | .call f es, X, sc, g, x, h => by
    have ind := fun {xs : List Expr} (h : chkEs T sc es xs = true) => snds es g h
    cases x <;> simp only [chkE] at h <;> first | (cases h; done) | skip
    split at h <;> first | (cases h; done) | skip
    obtain ⟨h1, h2⟩ := and2 h
    obtain ⟨h3, h4⟩ := and2 h1
    exact .plain (snd_call g h3 (of_decide_eq_true h4) (chkEs_star h2) (ind h2).pa (chkEs_len h2)) rfl
  | .cmp own t ik as tests elt, X, sc, g, x, h => by
    have ind := fun {xs : List Expr} (h : chkEs T sc as xs = true) => snds as g h
    have it := fun {Y : Cx} {sd : Scope} (gY : Good T Φ k sd Y) {xs : List Expr} (h : chkEs T sd tests xs = true) => snds tests gY h
    have ie := fun {Y : Cx} {sd : Scope} (gY : Good T Φ k sd Y) {y : Expr} (h : chkE T sd elt y = true) => snd1 elt gY h
    cases x <;> simp only [chkE] at h <;> first | (cases h; done) | skip
    split at h <;> first | (cases h; done) | skip
    obtain ⟨h1, h2⟩ := and2 h
    obtain ⟨h3, h4⟩ := and2 h1
    obtain ⟨h5, h6⟩ := and2 h3
    obtain ⟨h7, h8⟩ := and2 h5
    obtain ⟨h9, h10⟩ := and2 h7
    obtain ⟨h11, h12⟩ := and2 h9
    obtain ⟨h13, h14⟩ := and2 h11
    obtain ⟨h15, h16⟩ := and2 h13
    obtain ⟨h17, h18⟩ := and2 h15
    obtain rfl := of_decide_eq_true h17
    refine .plain (snd_lcmp g (ow := ownN T.N own) (own_map T.N own) (of_decide_eq_true h10) (by rw [g.N, g.scope]; exact blkOk_by h16) (chkI_set h18) (snd_I g h18 (fun a y e z => ?_) fun xs z => (ind z).pa) (fun j hj => ?_) (fun s H C cl fp => ?_) (fun s H C cl fp => ?_) fun s H C cl fp => ?_) rfl
    · subst e
      exact ((ind (xs := [y]) (by simp [chkEs, z, chkE_star z])).one a y rfl rfl).pe
    · have := List.all_eq_true.mp h12 j hj
      simpa using this
    · have h14 : chkP T.N (stB _) t _ = true := h14
      rw [← g.N] at h14
      refine PG.weak (snd_pat (X := X.blk s H _ (compEnvC _ cl C X.env) fp) (by show X.N.Nodup; rw [g.N]; exact g.nd) g.calm (stOk_blk s H _ C cl fp) h14) fun v σ H Q q => q
    · exact (it (g.blk s H _ C cl fp) h4).pts (chkEs_len h4) (of_decide_eq_true h6) h8
    · exact (ie (g.blk s H _ C cl fp) h2).pe
  | .cmp2 _ _ _ _ _ _ _ _ _ _ _, X, sc, g, x, h => by simp [chkE] at h
  | .frz a, X, sc, g, x, h => by
    simp only [chkE] at h
    exact ⟨snd_frz (snd1 a g h).pe, fun z => by simp [tstB] at z⟩
theorem snds : ∀ (as : List E) {X : Cx} {sc : Scope}, Good T Φ k sc X → ∀ {xs : List Expr}, chkEs T sc as xs = true → SndL T Φ X as xs
  | [], X, sc, g, xs, h => by
    obtain rfl := chkEs_nil h
    exact ⟨snd_nil, fun _ n => absurd rfl n, fun _ n => absurd rfl n, fun _ n => absurd rfl n, fun _ n => absurd rfl n, (fun a x e => by cases e), (fun a b x y e => by cases e)⟩
  | a :: as, X, sc, g, xs, h => by
    obtain ⟨y, ys, rfl, h1, h2, h3⟩ := chkEs_cons h
    have ha := snd1 a g h2
    have hs := snds as g h3
    refine ⟨snd_cons ha.pe hs.pa h1, fun pos _ => ?_, fun pos _ => ?_, fun pos _ ht => ?_, fun pos _ ht => ?_, fun b x e1 e2 => ?_, fun b c x z e1 e2 => ?_⟩
    · cases as with
      | nil => obtain rfl := chkEs_nil h3; exact snd_and1 ha.pe
      | cons b bs =>
        obtain ⟨z, zs, rfl, _, _, _⟩ := chkEs_cons h3
        exact snd_and2 ha.pe (hs.and pos (by simp))
    · cases as with
      | nil => obtain rfl := chkEs_nil h3; exact snd_or1 ha.pe
      | cons b bs =>
        obtain ⟨z, zs, rfl, _, _, _⟩ := chkEs_cons h3
        exact snd_or2 ha.pe (hs.or pos (by simp))
    · have ht := and2 (show (tstB a && tstBs as) = true from ht)
      cases as with
      | nil => obtain rfl := chkEs_nil h3; exact snd_tand1 (ha.pt ht.1)
      | cons b bs =>
        obtain ⟨z, zs, rfl, _, _, _⟩ := chkEs_cons h3
        exact snd_tand2 (ha.pt ht.1) (hs.wand pos (by simp) ht.2)
    · have ht := and2 (show (tstB a && tstBs as) = true from ht)
      cases as with
      | nil => obtain rfl := chkEs_nil h3; exact snd_tor1 (ha.pt ht.1)
      | cons b bs =>
        obtain ⟨z, zs, rfl, _, _, _⟩ := chkEs_cons h3
        exact snd_tor2 (ha.pt ht.1) (hs.wor pos (by simp) ht.2)
    · cases e1
      cases e2
      exact ha
    · cases e1
      cases e2
      exact ⟨ha, hs.one c z rfl rfl⟩
theorem sndo : ∀ (a : Option E) {X : Cx} {sc : Scope}, Good T Φ k sc X → ∀ {x : Option Expr}, chkO T sc a x = true → PO X x (tOpt X.K (evopt Φ T.G a))
  | none, X, sc, g, x, h => by
    cases x with
    | none => exact snd_onone
    | some y => simp [chkO] at h
  | some a, X, sc, g, x, h => by
    cases x with
    | none => simp [chkO] at h
    | some y =>
      simp only [chkO] at h
      exact snd_osome (snd1 a g h).pe
end
end
end Sw
set_option maxHeartbeats 1000000
/-! Sw, part 18: statements. -/
namespace Sw
open PySem PySem.Spec PyProof.Rows L2
/-! ### which text -/
def isComp : Expr → Bool
  | .ListComp .. => true
  | .SetComp .. => true
  | .DictComp .. => true
  | _ => false
def isSeqT : Expr → Bool
  | .Tuple .. => true
  | .List .. => true
  | _ => false
def isTupV : Expr → Bool
  | .Tuple .. => true
  | _ => false
theorem sw_no {v : Expr} (h : isComp v = false) (tg : Option Expr) (l : Nat) (env : PySem.Env) : swapsWith v tg l env = pure false := by
  cases v <;> first | (cases h; done) | rfl
theorem swS_no {v tg : Expr} (h : isComp v = false) (l : Nat) (env : PySem.Env) : swapsWithSole [tg] v l env = pure false := sw_no h _ _ _
theorem swSt_no {v tg : Expr} (h : (isSeqT tg && isTupV v) = false) (env : PySem.Env) : swappedStores [tg] v env = pure none := by
  cases tg <;> first | rfl | (cases v <;> first | rfl | cases h)
def ownsN (scope : Scope) (y : Str) : Bool := scope.names.any fun (n, k) => n == y && (k == .local || k == .cell)
theorem sw_false {elt : Expr} {gs : List Comprehension} {scope : Scope} {pos py : Pos} {y : Str} {l : Nat} {env : PySem.Env} (h : (env.kindOf y == some .local && py.line == pos.line && !(ownsN scope y)) = false) :
    swapsWith (.ListComp elt gs scope pos) (some (.Name y py)) l env = pure false := by
  unfold swapsWith
  have e : (env.blockKind == .function && env.kindOf y == some .local && py.line == pos.line && !(scope.names.any fun (n, k) => n == y && (k == .local || k == .cell))) = false := by
    have h : (env.kindOf y == some .local && py.line == pos.line && !(scope.names.any fun (n, k) => n == y && (k == .local || k == .cell))) = false := h
    rw [Bool.and_assoc, Bool.and_assoc]
    rw [Bool.and_assoc] at h
    rw [h, Bool.and_false]
  show (pure _ : Sem Bool) = pure false
  exact congrArg pure e
def swapC (sc : Scope) (ts vs : List Expr) : Option (Option (List Str)) :=
  if !(ts.length == 2 || ts.length == 3) || vs.length != ts.length then some none
  else if vs.any fun | .Starred .. => true | _ => false then some none
  else
    if (ts.filterMap fun
      | .Name id pos => if sc.names.lookup id == some .local && pos.line == (ts.head?.map (·.pos.line)).getD 0 then some id else none
      | _ => none).length != ts.length || (ts.filterMap fun
      | .Name id pos => if sc.names.lookup id == some .local && pos.line == (ts.head?.map (·.pos.line)).getD 0 then some id else none
      | _ => none).eraseDups.length != (ts.filterMap fun
      | .Name id pos => if sc.names.lookup id == some .local && pos.line == (ts.head?.map (·.pos.line)).getD 0 then some id else none
      | _ => none).length then some none
    else if vs.all (foldedForSure 8) then some none
    else if vs.all (constantsAlone 8) then none
    else some (some (ts.filterMap fun
      | .Name id pos => if sc.names.lookup id == some .local && pos.line == (ts.head?.map (·.pos.line)).getD 0 then some id else none
      | _ => none))
theorem sw_pair {ts vs : List Expr} {kt k2 : Nat} {pt pt2 : Pos} {env : PySem.Env} {r : Option (List Str)} (hk : env.scope.kind = .function) (h : swapC env.scope ts vs = some r) : swappedStores [.Tuple ts kt pt] (.Tuple vs k2 pt2) env = pure r := by
  have hb : env.blockKind = .function := by unfold Env.blockKind; rw [hk]; rfl
  unfold swapC at h
  unfold swappedStores
  have e1 : (ScopeKind.function != ScopeKind.function) = false := by decide
  simp only [hb, e1, Bool.or_false]
  have ek : ∀ id, env.kindOf id = env.scope.names.lookup id := fun _ => rfl
  simp only [ek]
  split at h
  · rename_i c
    cases h
    exact if_pos c
  rename_i c
  refine (if_neg c).trans ?_
  split at h
  · rename_i c
    cases h
    exact if_pos c
  rename_i c
  refine (if_neg c).trans ?_
  split at h
  · rename_i c
    cases h
    exact if_pos c
  rename_i c
  refine (if_neg c).trans ?_
  split at h
  · rename_i c
    cases h
    exact if_pos c
  rename_i c
  refine (if_neg c).trans ?_
  split at h
  · cases h
  rename_i c
  cases h
  exact if_neg c

def nmsB (N : List Str) (st : Str → Bool) : List Nat → List Expr → Bool
  | [], [] => true
  | i :: is, x :: xs => chkP N st (.nm i) x && nmsB N st is xs
  | _, _ => false
/-- the ways of a store of several -/
def parB (sc : Scope) (ts vs : List Expr) : Bool := match swapC sc ts vs with
  | some none => true
  | some (some ns) => (match ts, vs with
    | [.Name y _, .Name z _], [_, _] => decide (ns = [y, z]) && lookB sc y .local && lookB sc z .local
    | [.Name y _, .Name z _, .Name w _], [_, _, _] => decide (ns = [y, z, w]) && lookB sc y .local && lookB sc z .local && lookB sc w .local
    | _, _ => false)
  | none => false
def tupNo (sc : Scope) (tg v : Expr) : Bool := match tg, v with
  | .Tuple ts _ _, .Tuple vs _ _ => decide (swapC sc ts vs = some none)
  | _, _ => false
def asgB (sc : Scope) (tg v : Expr) : Bool := match v with
  | .ListComp _ _ scope pos => (match tg with
    | .Name y py => !(decide (sc.names.lookup y = some .local) && py.line == pos.line && !(ownsN scope y))
    | _ => false)
  | v => !isComp v && (!(isSeqT tg && isTupV v) || tupNo sc tg v)
def swB (sc : Scope) (tg v : Expr) : Bool := match v, tg with
  | .ListComp _ _ scope pos, .Name y py => lookB sc y .local && py.line == pos.line && !(ownsN scope y)
  | _, _ => false
def isCmp : E → Bool
  | .cmp .. => true
  | _ => false
def augOp : Op → Option Operator
  | .add => some .Add
  | .sub => some .Sub
  | _ => none
mutual
def chkT (W : Tab) (sc : Scope) : T → Stmt → Bool
  | .asg t a, s => (match s with
    | .Assign [tg] v _ => chkP W.N (stB sc) t tg && chkE W sc a v && (asgB sc tg v || (isCmp a && swB sc tg v))
    | _ => false)
  | .par is es, s => (match s with
    | .Assign [.Tuple ts _ _] (.Tuple vs _ _) _ => nmsB W.N (stB sc) is ts && decide is.Nodup && decide (is.length ≤ 20) && chkEs W sc es vs && parB sc ts vs
    | _ => false)
  | .aug i o a, s => (match s with
    | .AugAssign (.Name x _) op v _ => visB W.N sc i x && stB sc x && decide (augOp o = some op) && chkE W sc a v
    | _ => false)
  | .sto i k a, s => (match s with
    | .Assign [.Subscript (.Name x _) ix _] v _ => visB W.N sc i x && notSlice ix && chkE W sc k ix && chkE W sc a v && !isComp v
    | _ => false)
  | .augs _ _ _ _, _ => false
  | .ex a, s => (match s with
    | .Expr v _ => chkE W sc a v && !isComp v
    | _ => false)
  | .ret a, s => (match s with
    | .Return (some v) _ => chkE W sc a v
    | _ => false)
  | .ret0, s => (match s with
    | .Return none _ => true
    | _ => false)
  | .ifs t a b, s => (match s with
    | .If c x y _ => chkE W sc t c && tstB t && chkTs W sc a x && chkTs W sc b y
    | _ => false)
  | .fors t k as body, s => (match s with
    | .For tg iter b [] _ => chkP W.N (stB sc) t tg && chkI sc (isTup tg) k (fun xs => chkEs W sc as xs) iter && chkTs W sc body b
    | _ => false)
  | .whl _ t body, s => (match s with
    | .While c b [] _ => chkE W sc t c && tstB t && chkTs W sc body b
    | _ => false)
  | .brk, s => (match s with
    | .Break _ => true
    | _ => false)
  | .cont, s => (match s with
    | .Continue _ => true
    | _ => false)
  | .pass, s => (match s with
    | .Pass _ => true
    | _ => false)
  | .never, _ => true
def chkTs (W : Tab) (sc : Scope) : List T → List Stmt → Bool
  | [], ss => ss.isEmpty
  | a :: as, ss => (match ss with
    | s :: ss => chkT W sc a s && chkTs W sc as ss
    | _ => false)
end
/-! ### readings -/
def ndOk (K : PySem.W.Frag) (l : List Nat) (D : Ends) (σ : L2.St) (H : Hp) (F : List Addr) (e' : En) : Fl → Prop
  | .nx => ∀ σ' H' F', EnvRep K H' σ' e' F' → F'.Nodup → Stp H F H' F' → Agr l σ σ' → D.nx σ' H'
  | .bk => ∀ σ' H' F', EnvRep K H' σ' e' F' → F'.Nodup → Stp H F H' F' → Agr l σ σ' → D.bk σ' H'
  | .ct => ∀ σ' H' F', EnvRep K H' σ' e' F' → F'.Nodup → Stp H F H' F' → Agr l σ σ' → D.ct σ' H'
  | .rt d => ∀ v σ' H' Fd F', Rep K H' v d Fd → EnvRep K H' σ' e' F' → (Fd ++ F').Nodup → Stp H F H' (Fd ++ F') → Agr l σ σ' → D.rt v H'
def tT (K : PySem.W.Frag) (f : En → Option (Fl × En)) (l : List Nat) : TS := fun D σ H => ∃ e F fl e', EnvRep K H σ e F ∧ F.Nodup ∧ f e = some (fl, e') ∧ ndOk K l D σ H F e' fl
section
variable {K : PySem.W.Frag} {l l' m : List Nat} {D D' : Ends} {σ σ1 : L2.St} {H H1 : Hp} {F F1 : List Addr} {e' : En} {fl : Fl}
/-- from a later place -/
theorem ndOk.step (h : ndOk K m D σ H F e' fl) (s : Stp H F H1 F1) (a : Agr l σ σ1) (hl : ∀ j, j ∈ l → j ∈ m) (hl' : ∀ j, j ∈ l' → j ∈ m) : ndOk K l' D σ1 H1 F1 e' fl := by
  cases fl with
  | nx => exact fun σ' H' F' r n q g => h σ' H' F' r n (s.trans q) ((a.mono hl).trans (g.mono hl'))
  | bk => exact fun σ' H' F' r n q g => h σ' H' F' r n (s.trans q) ((a.mono hl).trans (g.mono hl'))
  | ct => exact fun σ' H' F' r n q g => h σ' H' F' r n (s.trans q) ((a.mono hl).trans (g.mono hl'))
  | rt d => exact fun v σ' H' Fd F' r r2 n q g => h v σ' H' Fd F' r r2 n (s.trans q) ((a.mono hl).trans (g.mono hl'))
/-- other ends -/
theorem ndOk.ends (h : ndOk K l D σ H F e' fl) (h1 : fl = .nx → D'.nx = D.nx) (h2 : fl = .bk → D'.bk = D.bk) (h3 : fl = .ct → D'.ct = D.ct) (h4 : D'.rt = D.rt) : ndOk K l D' σ H F e' fl := by
  cases fl with
  | nx => exact fun σ' H' F' r n q g => by rw [h1 rfl]; exact h σ' H' F' r n q g
  | bk => exact fun σ' H' F' r n q g => by rw [h2 rfl]; exact h σ' H' F' r n q g
  | ct => exact fun σ' H' F' r n q g => by rw [h3 rfl]; exact h σ' H' F' r n q g
  | rt d => exact fun v σ' H' Fd F' r r2 n q g => by rw [h4]; exact h v σ' H' Fd F' r r2 n q g
end
/-- a body of a def -/
structure DefCx (X : Cx) : Prop where
  fn : X.fn = fun _ => true
  own : PassesOwn (model X.prog X.w) X.A X.env X.xe
  kind : X.env.scope.kind = .function
section
variable {T : Tab} {Φ : CallS} {k : Nat} {sc : Scope} {X : Cx}
theorem stOk_def (g : Good T Φ k sc X) (d : DefCx X) : StOk X (stB sc) := by
  refine ⟨fun x h => ?_, fun x h => .inl (by rw [d.fn])⟩
  unfold stB at h
  rw [Bool.or_eq_true] at h
  rw [g.scope]
  rcases h with h | h
  · exact .inl (look_of h)
  · exact .inr (look_of h)
theorem pat_def {t : Pat} {tg : Expr} (g : Good T Φ k sc X) (d : DefCx X) (h : chkP T.N (stB sc) t tg = true) : PG X tg (tG X.K t) :=
  snd_pat (by rw [g.N]; exact g.nd) g.calm (stOk_def g d) (by rw [g.N]; exact h)
theorem name_def {i : Nat} {tg : Expr} (g : Good T Φ k sc X) (d : DefCx X) (h : chkP T.N (stB sc) (.nm i) tg = true) : PG X tg (gName i) ∧ ∃ y pos, tg = .Name y pos ∧ X.N[i]? = some y ∧ stB sc y = true := by
  cases tg <;> simp only [chkP] at h <;> first | (cases h; done) | skip
  obtain ⟨h1, h2⟩ := and2 h
  have h1 := of_decide_eq_true h1
  have ok := stOk_def g d
  refine ⟨pg_name (by rw [g.N]; exact g.nd) (by rw [g.N]; exact h1) (ok.loc _ h2) (ok.fn _ h2), _, _, rfl, by rw [g.N]; exact h1, h2⟩
theorem assign1 {tg : Expr} {t : Pat} {st : Str → Bool} (h : chkP X.N st t tg = true) : (assignEach [tg] X.env).map (·.2) = [assign tg X.env] := by
  have : notStar tg = true := by
    cases tg <;> first | rfl | (cases t <;> simp [chkP] at h)
  rw [assign_of this] <;> rfl
/-- the readings of a store -/
theorem asg_imm {te : TE} {t : Pat} {D : Ends} {σ : L2.St} {H : Hp} {e e1 e2 : En} {F : List Addr} {a : E} {p : P} (he : EnvRep X.K H σ e F) (n : F.Nodup) (h1 : evo Φ T.G a e = some (.tmp (.imm p), e1)) (h2 : bindP t p e1 = some e2)
    (hQ : ndOk X.K (asgP t) D σ H F e2 .nx) : tAsg (tO X.K (evo Φ T.G a)) (tG X.K t) D σ H := by
  refine tO_mk he n h1 fun v H1 Fd F1 ox he1 n1 s1 => ?_
  obtain ⟨q1, rfl⟩ := (show Rep X.K H1 v (.imm p) Fd from ox).imm_of
  exact ⟨e1, F1, p, e2, he1, nd_right n1, q1, h2, fun σ' F' r nd sub ag => hQ σ' H1 F' r nd (stp_pick (stp_drop s1) sub) ag⟩
theorem asg_lst {i : Nat} {D : Ends} {σ : L2.St} {H : Hp} {e e1 : En} {F : List Addr} {a : E} {ps : List P} (he : EnvRep X.K H σ e F) (n : F.Nodup) (h1 : evo Φ T.G a e = some (.tmp (.lst ps), e1))
    (hQ : ndOk X.K [i] D σ H F (e1.set i (some (.lst ps))) .nx) : tO X.K (evo Φ T.G a) σ H fun v H1 => gName i v σ H1 D.nx := by
  refine tO_mk he n h1 fun v H1 Fd F1 ox he1 n1 s1 => ?_
  have ox : Rep X.K H1 v (.lst ps) Fd := ox
  obtain ⟨F', r1, r2, r3⟩ := he1.setD ox i
  exact hQ _ H1 F' r1 (r3 n1) (stp_pick s1 fun a z => List.mem_append.mpr (r2 a z)) agr_set
theorem ex_asg {t : Pat} {a : E} {e e' : En} {fl : Fl} (h : ex Φ T.G (.asg t a) e = some (fl, e')) : ∃ e1, fl = .nx ∧ ((∃ p, evo Φ T.G a e = some (.tmp (.imm p), e1) ∧ bindP t p e1 = some e') ∨
    ∃ i ps, t = .nm i ∧ evo Φ T.G a e = some (.tmp (.lst ps), e1) ∧ e' = e1.set i (some (.lst ps))) := by
  simp only [ex] at h
  obtain ⟨⟨o, e1⟩, h1, h⟩ := bind_some h
  obtain ⟨e2, h2, h⟩ := bind_some h
  cases h
  cases o with
  | slot i => cases h2
  | tmp d =>
    cases d with
    | imm p => exact ⟨e1, rfl, .inl ⟨p, h1, h2⟩⟩
    | lst ps =>
      cases t with
      | tp ts => cases h2
      | nm i =>
        cases h2
        exact ⟨e1, rfl, .inr ⟨i, ps, rfl, h1, rfl⟩⟩
theorem asgB_sw {tg v : Expr} {t : Pat} {st : Str → Bool} (g : Good T Φ k sc X) (dk : DefCx X) (h : asgB sc tg v = true) (l : Nat) : swapsWithSole [tg] v l X.env = pure false ∧ swappedStores [tg] v X.env = pure none := by
  unfold asgB at h
  split at h
  · split at h
    · rename_i y py
      refine ⟨sw_false (l := l) ?_, rfl⟩
      rw [Bool.not_eq_true'] at h
      have e : (X.env.kindOf y == some NameKind.local) = decide (sc.names.lookup y = some .local) := by
        unfold Env.kindOf
        rw [g.scope]
        cases hq : (sc.names.lookup y == some NameKind.local) with
        | true => rw [decide_eq_true (by simpa using hq)]
        | false => rw [decide_eq_false (by simpa using hq)]
      rw [e]
      exact h
    · cases h
  · obtain ⟨h1, h2⟩ := and2 h
    rw [Bool.not_eq_true'] at h1
    rcases (Bool.or_eq_true _ _).mp h2 with h2 | h2
    · rw [Bool.not_eq_true'] at h2
      exact ⟨swS_no h1 _ _, swSt_no h2 _⟩
    · refine ⟨swS_no h1 _ _, ?_⟩
      unfold tupNo at h2
      split at h2
      · exact sw_pair dk.kind (by rw [g.scope]; exact of_decide_eq_true h2)
      · cases h2
theorem snd_asg {t : Pat} {a : E} {tg v : Expr} {pos : Pos} (g : Good T Φ k sc X) (d : DefCx X) (h1 : chkP T.N (stB sc) t tg = true) (h2 : chkE T sc a v = true) (h3 : asgB sc tg v = true) : PS X (.Assign [tg] v pos) (tT X.K (ex Φ T.G (.asg t a)) (asgP t)) := by
  obtain ⟨w1, w2⟩ := asgB_sw (t := t) (st := stB sc) g d h3 pos.line
  have w3 : (assignEach [tg] X.env).map (·.2) = [assign tg X.env] := assign1 (by rw [g.N]; exact h1)
  have hv := (snd1 a g h2).pe
  refine ⟨fun pins s σ H D I h => ?_⟩
  obtain ⟨e, F, fl, e', he, n, hf, hQ⟩ := h
  obtain ⟨e1, rfl, ⟨p, g1, g2⟩ | ⟨i, ps, rfl, g1, rfl⟩⟩ := ex_asg hf
  · exact (ps_asg hv (pat_def g d h1) w1 w2 w3).run pins s σ H D I (asg_imm (te := tO X.K (evo Φ T.G a)) he n g1 g2 hQ)
  · exact (ps_asg hv (name_def g d h1).1 w1 w2 w3).run pins s σ H D I (asg_lst he n g1 (by simpa [asgP] using hQ))
/-- a comprehension's parts -/
theorem cmp_of {own : List Nat} {t : Pat} {ik : IK} {as tests : List E} {elt : E} {v : Expr} (g : Good T Φ k sc X) (h : chkE T sc (.cmp own t ik as tests elt) v = true) :
    ∃ x tg iter ifs scope pos, v = .ListComp x [⟨tg, iter, ifs, 0⟩] scope pos ∧ PI X tg iter (tI X.K ik (evos Φ T.G as)) ∧ BlkOk X.N X.env.scope scope (ownN T.N own) ∧ notSet iter = true ∧ own.Nodup ∧ (∀ j ∈ asgP t, j ∈ own) ∧
      (∀ (s : Shared) (H : Hp) (C : Addr) (cl : List (Str × Addr)) (fp : List Addr), PG (X.blk s H scope (compEnvC scope cl C X.env) fp) tg (tG X.K t)) ∧
      (∀ (s : Shared) (H : Hp) (C : Addr) (cl : List (Str × Addr)) (fp : List Addr), PTs (X.blk s H scope (compEnvC scope cl C X.env) fp) ifs (tB X.K (evtests Φ T.G tests))) ∧
      (∀ (s : Shared) (H : Hp) (C : Addr) (cl : List (Str × Addr)) (fp : List Addr), PE (X.blk s H scope (compEnvC scope cl C X.env) fp) x (tO X.K (evo Φ T.G elt))) := by
  have ind := fun {xs : List Expr} (h : chkEs T sc as xs = true) => snds as g h
  cases v <;> simp only [chkE] at h <;> first | (cases h; done) | skip
  split at h <;> first | (cases h; done) | skip
  obtain ⟨h1, h2⟩ := and2 h
  obtain ⟨h3, h4⟩ := and2 h1
  obtain ⟨h5, h6⟩ := and2 h3
  obtain ⟨h7, h8⟩ := and2 h5
  obtain ⟨h9, h10⟩ := and2 h7
  obtain ⟨h11, h12⟩ := and2 h9
  obtain ⟨h13, h14⟩ := and2 h11
  obtain ⟨h15, h16⟩ := and2 h13
  obtain ⟨h17, h18⟩ := and2 h15
  obtain rfl := of_decide_eq_true h17
  refine ⟨_, _, _, _, _, _, rfl, snd_I g h18 (fun a y e z => ?_) (fun xs z => (ind z).pa), by rw [g.N, g.scope]; exact blkOk_by h16, chkI_set h18, of_decide_eq_true h10, fun j hj => ?_, fun s H C cl fp => ?_, fun s H C cl fp => ?_, fun s H C cl fp => ?_⟩
  · subst e
    exact ((ind (xs := [y]) (by simp [chkEs, z, chkE_star z])).one a y rfl rfl).pe
  · have := List.all_eq_true.mp h12 j hj
    simpa using this
  · have h14 : chkP T.N (stB _) t _ = true := h14
    rw [← g.N] at h14
    refine PG.weak (snd_pat (X := X.blk s H _ (compEnvC _ cl C X.env) fp) (by show X.N.Nodup; rw [g.N]; exact g.nd) g.calm (stOk_blk s H _ C cl fp) h14) fun v σ H Q q => q
  · exact (snds tests (g.blk s H _ C cl fp) h4).pts (chkEs_len h4) (of_decide_eq_true h6) h8
  · exact (snd1 elt (g.blk s H _ C cl fp) h2).pe
theorem snd_asgL {own : List Nat} {t2 t : Pat} {ik : IK} {as tests : List E} {elt : E} {tg v : Expr} {pos : Pos} (g : Good T Φ k sc X) (d : DefCx X) (h1 : chkP T.N (stB sc) t tg = true) (h2 : chkE T sc (.cmp own t2 ik as tests elt) v = true) (h3 : swB sc tg v = true) :
    PS X (.Assign [tg] v pos) (tT X.K (ex Φ T.G (.asg t (.cmp own t2 ik as tests elt))) (asgP t)) := by
  obtain ⟨x, tg2, iter, ifs, scope, pos2, rfl, c1, c2, c3, c4, c5, c6, c7, c8⟩ := cmp_of g h2
  refine ⟨fun pins s σ H D I h => ?_⟩
  obtain ⟨e, F, fl, e', he, n, hf, hQ⟩ := h
  obtain ⟨e1, rfl, ⟨p, g1, g2⟩ | ⟨i, ps, rfl, g1, rfl⟩⟩ := ex_asg hf
  · obtain ⟨_, _, _, _, _, _, _, _, _, _, _, e, _⟩ := evo_cmp g1
    cases e
  · obtain ⟨_, y, py, rfl, hN, _⟩ := name_def g d h1
    have h3 : (lookB sc y .local && py.line == pos2.line && !(ownsN scope y)) = true := h3
    obtain ⟨h4, h5⟩ := and2 h3
    obtain ⟨h6, h7⟩ := and2 h4
    have hl : X.env.scope.names.lookup y = some .local := by rw [g.scope]; exact look_of h6
    rw [Bool.not_eq_true'] at h5
    refine (ps_setLc g.calm (by rw [g.N]; exact g.nd) hN hl (sw_true d.kind hl h7 h5) c1 c2 c6 c7 c8 (notSet_of c3 _)).run pins s σ H D I ?_
    exact lcmp_reads (own_map T.N own) c4 c5 (asg_lst (i := i) he n g1 (by simpa [asgP] using hQ))
end
end Sw
set_option maxHeartbeats 1000000
/-! Sw, part 19: statements, on. -/
namespace Sw
open PySem PySem.Spec PyProof.Rows L2
section
variable {T : Tab} {Φ : CallS} {k : Nat} {sc : Scope} {X : Cx}
/-! ### several at once -/
def setsV : List Nat → List V → L2.St → L2.St
  | i :: is, v :: vs, σ => setsV is vs (σ.set i (some v))
  | _, _, σ => σ
theorem setAll_ok {K : PySem.W.Frag} {H : Hp} {σ0 : L2.St} : ∀ {is : List Nat} {vs : List V} {os : List Opd} {Fs : List Addr}, ORs K H σ0 vs os Fs → ∀ {σ : L2.St} {e e' : En} {F : List Addr}, EnvRep K H σ e F → (Fs ++ F).Nodup → setAll is os e = some e' →
    vs.length = is.length ∧ ∃ F', EnvRep K H (setsV is vs σ) e' F' ∧ F'.Nodup ∧ (∀ a, a ∈ F' → a ∈ Fs ++ F) ∧ Agr is σ (setsV is vs σ) := by
  intro is vs os Fs h
  induction h generalizing is with
  | nil =>
    intro σ e e' F he n hs
    cases is with
    | cons _ _ => cases hs
    | nil => cases hs; exact ⟨rfl, F, he, n, fun a z => z, Agr.refl _ _⟩
  | @cons v vs o os F0 G0 r _ ih =>
    intro σ e e' F he n hs
    cases is with
    | nil => cases o <;> cases hs
    | cons i is =>
      cases o with
      | slot _ => cases hs
      | tmp d =>
        have hs : setAll is os (e.set i (some d)) = some e' := hs
        have r : Rep K H v d F0 := r
        obtain ⟨F1, h1, h2, h3⟩ := he.setD r i
        rw [List.append_assoc] at n
        have n0 : (F0 ++ F).Nodup := nd_mk (nd_left n) (nd_right (nd_right n)) fun a z y => nd_off n a z (List.mem_append_right _ y)
        have nG : (G0 ++ F1).Nodup := nd_mk (nd_left (nd_right n)) (h3 n0) fun a z y => by
          rcases h2 a y with y | y
          · exact nd_off n a y (List.mem_append_left _ z)
          · exact nd_off (nd_right n) a z y
        obtain ⟨g1, F2, g2, g3, g4, g5⟩ := ih h1 nG hs
        refine ⟨by rw [List.length_cons, List.length_cons, g1], F2, g2, g3, fun a z => ?_, ?_⟩
        · rw [List.append_assoc]
          rcases List.mem_append.mp (g4 a z) with z | z
          · exact List.mem_append_right _ (List.mem_append_left _ z)
          · rcases h2 a z with z | z
            · exact List.mem_append_left _ z
            · exact List.mem_append_right _ (List.mem_append_right _ z)
        · exact (agr_set.mono fun j z => by rw [List.mem_singleton.mp z]; exact List.mem_cons_self).trans (g5.mono fun j z => List.mem_cons_of_mem _ z)
theorem ex_par {is : List Nat} {es : List E} {e e' : En} {fl : Fl} (h : ex Φ T.G (.par is es) e = some (fl, e')) : ∃ os e1, fl = .nx ∧ evos Φ T.G es e = some (os, e1) ∧ setAll is os e1 = some e' := by
  simp only [ex] at h
  obtain ⟨⟨os, e1⟩, h1, h⟩ := bind_some h
  obtain ⟨e2, h2, h⟩ := bind_some h
  cases h
  exact ⟨os, e1, rfl, h1, h2⟩
theorem par_reads {is : List Nat} {es : List E} {D : Ends} {σ : L2.St} {H : Hp} (h : tT X.K (ex Φ T.G (.par is es)) is D σ H) : tOs X.K (evos Φ T.G es) σ H fun vs H1 => vs.length = is.length ∧ D.nx (setsV is vs σ) H1 := by
  obtain ⟨e, F, fl, e', he, n, hf, hQ⟩ := h
  obtain ⟨os, e1, rfl, h1, h2⟩ := ex_par hf
  refine ⟨e, F, os, e1, he, n, h1, fun vs H1 Fs F1 rs he1 n1 s1 => ?_⟩
  obtain ⟨g1, F2, g2, g3, g4, g5⟩ := setAll_ok rs he1 n1 h2
  exact ⟨g1, hQ _ H1 F2 g2 g3 (stp_pick s1 g4) g5⟩
/-- plain: the tuple, then its parts -/
def gNms : List Nat → TGs
  | [] => gNil
  | i :: is => gCons (gName i) (gNms is)
theorem gNms_ok : ∀ {is : List Nat} {vs : List V} {σ : L2.St} {H : Hp} {Q : L2.St → Hp → Prop}, vs.length = is.length → Q (setsV is vs σ) H → gNms is vs σ H Q
  | [], [], σ, H, Q, _, q => ⟨rfl, q⟩
  | i :: is, v :: vs, σ, H, Q, hl, q => ⟨v, vs, rfl, gNms_ok (by simpa using hl) q⟩
  | [], _ :: _, _, _, _, hl, _ => by simp at hl
  | _ :: _, [], _, _, _, hl, _ => by simp at hl
theorem nms_ok (g : Good T Φ k sc X) (d : DefCx X) : ∀ {is : List Nat} {ts : List Expr}, nmsB T.N (stB sc) is ts = true → PGs X ts (gNms is) ∧ (assignEach ts X.env).length = is.length ∧ (assignEach ts X.env).findIdx? (·.1) = none
  | [], [], _ => ⟨pgs_nil, rfl, rfl⟩
  | i :: is, t :: ts, h => by
    obtain ⟨h1, h2⟩ := and2 (show (chkP T.N (stB sc) (.nm i) t && nmsB T.N (stB sc) is ts) = true from h)
    obtain ⟨a1, a2, a3⟩ := nms_ok g d h2
    obtain ⟨b1, y, pos, rfl, b2, b3⟩ := name_def g d h1
    exact ⟨pgs_cons b1 a1, by rw [show assignEach (.Name y pos :: ts) X.env = (false, assign (.Name y pos) X.env) :: assignEach ts X.env from rfl, List.length_cons, a2, List.length_cons], by
      rw [show assignEach (.Name y pos :: ts) X.env = (false, assign (.Name y pos) X.env) :: assignEach ts X.env from rfl, List.findIdx?_cons, a3] <;> rfl⟩
  | [], _ :: _, h => by cases h
  | _ :: _, [], h => by cases h
theorem nmsB_cons {N : List Str} {st : Str → Bool} {is : List Nat} {t : Expr} {ts : List Expr} (h : nmsB N st is (t :: ts) = true) : ∃ i js, is = i :: js ∧ chkP N st (.nm i) t = true ∧ nmsB N st js ts = true := by
  cases is with
  | nil => cases h
  | cons i js =>
    obtain ⟨h1, h2⟩ := and2 (show (chkP N st (.nm i) t && nmsB N st js ts) = true from h)
    exact ⟨i, js, rfl, h1, h2⟩
theorem nmsB_nil {N : List Str} {st : Str → Bool} {is : List Nat} (h : nmsB N st is [] = true) : is = [] := by
  cases is with
  | nil => rfl
  | cons _ _ => cases h
theorem name_st {i : Nat} {y : Str} {py : Pos} (g : Good T Φ k sc X) (d : DefCx X) (h : chkP T.N (stB sc) (.nm i) (.Name y py) = true) : X.N[i]? = some y := by
  obtain ⟨_, z, pz, e, n1, _⟩ := name_def g d h
  cases e
  exact n1
theorem snd_par {is : List Nat} {es : List E} {ts vs : List Expr} {kt k2 : Nat} {pt pt2 pos : Pos} (g : Good T Φ k sc X) (d : DefCx X) (h1 : nmsB T.N (stB sc) is ts = true) (h2 : is.Nodup) (hlen : is.length ≤ 20) (h3 : chkEs T sc es vs = true) (h4 : parB sc ts vs = true) :
    PS X (.Assign [.Tuple ts kt pt] (.Tuple vs k2 pt2) pos) (tT X.K (ex Φ T.G (.par is es)) is) := by
  have hv := (snds es g h3).pa
  have hN : X.N.Nodup := by rw [g.N]; exact g.nd
  unfold parB at h4
  split at h4
  · rename_i hw
    obtain ⟨a1, a2, a3⟩ := nms_ok g d h1
    refine PS.weak (ps_asg (pe_tup hv) (pg_tup (n := is.length) g.calm a1 a2 a3) (swS_no rfl _ _) (sw_pair d.kind (by rw [g.scope]; exact hw)) rfl) fun D σ H h => ?_
    obtain ⟨e0, F0, fl, e', he0, n0, hf0, hQ0⟩ := h
    obtain ⟨os', e1', rfl, k1, k2⟩ := ex_par hf0
    refine ⟨e0, F0, os', e1', he0, n0, k1, fun us H1 Fs F1 rs he1 n1 s1 => ?_⟩
    have hl : us.length = is.length := (setAll_ok rs he1 n1 k2).1
    refine ⟨by rw [sizeLine_is]; omega, fun p hp => ?_⟩
    have sm : Same H1 (upd H1 p (.tup us)) := same_new hp
    refine ⟨p, us, rfl, SqT.of upd_same, hl, ?_⟩
    have rs' := rs.mono (Keeps.of_same sm) (same_off sm rs.mut)
    obtain ⟨_, F2, g2, g3, g4, g5⟩ := setAll_ok rs' (he1.same sm) n1 k2
    exact gNms_ok hl (hQ0 _ _ F2 g2 g3 (stp_pick (s1.trans (Stp.of_same sm)) g4) g5)
  · rename_i ns hw
    split at h4
    · rename_i y py z pz v1 v2
      obtain ⟨h5, l3⟩ := and2 h4
      obtain ⟨h6, l1⟩ := and2 h5
      obtain rfl := of_decide_eq_true h6
      obtain ⟨i, js, rfl, c1, h1⟩ := nmsB_cons h1
      obtain ⟨j, js2, rfl, c3, h1⟩ := nmsB_cons h1
      obtain rfl := nmsB_nil h1
      refine PS.weak (ps_par g.calm hN (name_st g d c1) (name_st g d c3) (by simpa using h2) (by rw [g.scope]; exact look_of l1) (by rw [g.scope]; exact look_of l3) hv (sw_pair d.kind (by rw [g.scope]; exact hw)) (swS_no rfl _ _)) fun D σ H h => ?_
      obtain ⟨e, F, os, e1, he, n, hf, hQ⟩ := par_reads h
      refine ⟨e, F, os, e1, he, n, hf, fun us H1 Fs F1 rs he1 n1 s1 => ?_⟩
      obtain ⟨q1, q2⟩ := hQ us H1 Fs F1 rs he1 n1 s1
      match us, q1, q2 with
      | [u1, u2], _, q2 => exact ⟨u1, u2, rfl, q2⟩
    · rename_i y py z pz w pw v1 v2 v3
      obtain ⟨h5, l5⟩ := and2 h4
      obtain ⟨h6, l3⟩ := and2 h5
      obtain ⟨h7, l1⟩ := and2 h6
      obtain rfl := of_decide_eq_true h7
      obtain ⟨i, js, rfl, c1, h1⟩ := nmsB_cons h1
      obtain ⟨j, js2, rfl, c3, h1⟩ := nmsB_cons h1
      obtain ⟨l, js3, rfl, c5, h1⟩ := nmsB_cons h1
      obtain rfl := nmsB_nil h1
      have hd : i ≠ j ∧ i ≠ l ∧ j ≠ l := by
        simp only [List.nodup_cons, List.mem_cons, List.not_mem_nil, or_false, not_or] at h2
        exact ⟨h2.1.1, h2.1.2, h2.2.1⟩
      refine PS.weak (ps_par3 g.calm hN (name_st g d c1) (name_st g d c3) (name_st g d c5) hd.1 hd.2.1 hd.2.2 (by rw [g.scope]; exact look_of l1) (by rw [g.scope]; exact look_of l3) (by rw [g.scope]; exact look_of l5) hv (sw_pair d.kind (by rw [g.scope]; exact hw)) (swS_no rfl _ _)) fun D σ H h => ?_
      obtain ⟨e, F, os, e1, he, n, hf, hQ⟩ := par_reads h
      refine ⟨e, F, os, e1, he, n, hf, fun us H1 Fs F1 rs he1 n1 s1 => ?_⟩
      obtain ⟨q1, q2⟩ := hQ us H1 Fs F1 rs he1 n1 s1
      match us, q1, q2 with
      | [u1, u2, u3], _, q2 => exact ⟨u1, u2, u3, rfl, q2⟩
    · cases h4
  · cases h4
/-! ### x op= y -/
def rAug : R2 := fun x y H Q => (∃ i j : Int, x = .int i ∧ y = .int j ∧ Q (.int (i + j)) H) ∨ ∃ i j : Str, x = .str i ∧ y = .str j ∧ i.length + j.length ≤ sizeLine ∧ Q (.str (i ++ j)) H
def rAugS : R2 := fun x y H Q => ∃ i j : Int, x = .int i ∧ y = .int j ∧ Q (.int (i - j)) H
theorem pip_add : PIp X .Add rAug := fun pins s σ H x y v u Q I rx ry h => by
  rcases h with h | h
  · exact augR iop_add I rx ry h
  · exact augR iop_add_str I rx ry h
theorem pip_sub : PIp X .Sub rAugS := fun pins s σ H x y v u Q I rx ry h => augR iop_sub I rx ry h
theorem ex_aug {i : Nat} {o : Op} {a : E} {e e' : En} {fl : Fl} (h : ex Φ T.G (.aug i o a) e = some (fl, e')) : ∃ u y e1 du dy d, fl = .nx ∧ nmSem i e = some u ∧ evo Φ T.G a e = some (y, e1) ∧ resv e1 u = some du ∧ resv e1 y = some dy ∧ augSem o du dy = some d ∧ e' = e1.set i (some d) := by
  simp only [ex] at h
  obtain ⟨u, h1, h⟩ := bind_some h
  obtain ⟨⟨y, e1⟩, h2, h⟩ := bind_some h
  obtain ⟨ds, h3, h⟩ := bind_some h
  obtain ⟨d, h4, h⟩ := bind_some h
  cases h
  simp only [resvs] at h3
  obtain ⟨du, h5, h3⟩ := bind_some h3
  obtain ⟨ds2, h6, h3⟩ := bind_some h3
  obtain ⟨dy, h7, h6⟩ := bind_some h6
  simp only [Option.bind_some] at h6
  cases h6
  cases h3
  exact ⟨u, y, e1, du, dy, d, rfl, h1, h2, h5, h7, h4, rfl⟩
theorem snd_aug {i : Nat} {o : Op} {a : E} {x : Str} {v : Expr} {op : Operator} {p pos : Pos} (g : Good T Φ k sc X) (d : DefCx X) (h1 : visB T.N sc i x = true) (h2 : stB sc x = true) (h3 : augOp o = some op) (h4 : chkE T sc a v = true) :
    PS X (.AugAssign (.Name x p) op v pos) (tT X.K (ex Φ T.G (.aug i o a)) [i]) := by
  obtain ⟨v1, v2, v3, v4⟩ := vis_of h1
  have ok := stOk_def g d
  have hN : X.N.Nodup := by rw [g.N]; exact g.nd
  have hv := (snd1 a g h4).pe
  have hi : X.N[i]? = some x := by rw [g.N]; exact v1
  have red : ∀ {D : Ends} {σ : L2.St} {H : Hp} {ti : TIp}, (∀ {K : PySem.W.Frag} {H1 : Hp} {w z : V} {du dy dz : Sw.D} {Q : VK}, (∃ F, Rep K H1 w du F) → (∃ F, Rep K H1 z dy F) → augSem o du dy = some dz → (∀ r, PRep K H1 r (rd dz) → isImm dz = true → Q r H1) → ti w z H1 Q) →
      tT X.K (ex Φ T.G (.aug i o a)) [i] D σ H → tAug i (tO X.K (evo Φ T.G a)) ti D σ H := fun {D σ H ti} hti h => by
    obtain ⟨e, F, fl, e', he, n, hf, hQ⟩ := h
    obtain ⟨u, y, e1, du, dy, dz, rfl, k1, k2, k3, k4, k5, rfl⟩ := ex_aug hf
    unfold nmSem at k1
    split at k1
    · rename_i q hq
      cases k1
      cases k3
      obtain ⟨w, Fi, w1, w2, _⟩ := he.get hq
      obtain ⟨w3, rfl⟩ := w2.imm_of
      refine ⟨w, w1, tO_mk he n k2 fun z H1 Fd F1 ox he1 n1 s1 => ?_⟩
      have kp := s1.keeps he.mut
      refine hti ⟨[], Rep.imm (w3.keep kp)⟩ (resv_ok he1 ox k4) k5 fun r hr him => ?_
      cases dz with
      | lst _ => cases him
      | imm pz =>
        obtain ⟨F2, g1, g2, g3⟩ := he1.setD (Rep.imm (show PRep X.K H1 r pz from hr)) i
        exact hQ _ H1 F2 g1 (g3 (nd_right n1)) (stp_pick (stp_drop s1) fun a z => (g2 a z).elim (fun z => nomatch z) id) agr_set
    · cases k1
      obtain ⟨w, Fi, w1, w2, _⟩ := he.get (by assumption)
      refine ⟨w, w1, tO_mk he n k2 fun z H1 Fd F1 ox he1 n1 s1 => ?_⟩
      obtain ⟨w', Fi', w1', w2', _⟩ := he1.get (show getE e1 i = some du from k3)
      rw [w1] at w1'
      cases w1'
      refine hti ⟨Fi', w2'⟩ (resv_ok he1 ox k4) k5 fun r hr him => ?_
      cases dz with
      | lst _ => cases him
      | imm pz =>
        obtain ⟨F2, g1, g2, g3⟩ := he1.setD (Rep.imm (show PRep X.K H1 r pz from hr)) i
        exact hQ _ H1 F2 g1 (g3 (nd_right n1)) (stp_pick (stp_drop s1) fun a z => (g2 a z).elim (fun z => nomatch z) id) agr_set
    · cases k1
  cases o <;> first | (cases h3; done) | (cases h3)
  · refine PS.weak (ps_aug hN hi (ok.loc _ h2) hv pip_add (ok.fn _ h2)) fun D σ H h => red (fun {K H1 w z du dy dz Q} r1 r2 hs hq => ?_) h
    obtain ⟨_, r1⟩ := r1
    obtain ⟨_, r2⟩ := r2
    unfold augSem at hs
    split at hs
    · obtain rfl := r1.int_of
      obtain rfl := r2.int_of
      cases hs
      exact .inl ⟨_, _, rfl, rfl, hq _ (.int _) rfl⟩
    · split at hs
      · rename_i hl
        obtain ⟨rfl, c1⟩ := r1.str_of
        obtain ⟨rfl, c2⟩ := r2.str_of
        cases hs
        refine .inr ⟨_, _, rfl, rfl, by rw [sOf_len, sOf_len]; exact le_line hl, ?_⟩
        rw [sOf_app]
        exact hq _ (.str _ (chrOk_app c1 c2)) rfl
      · cases hs
    · rename_i e
      cases e
    · cases hs
  · refine PS.weak (ps_aug hN hi (ok.loc _ h2) hv pip_sub (ok.fn _ h2)) fun D σ H h => red (fun {K H1 w z du dy dz Q} r1 r2 hs hq => ?_) h
    obtain ⟨_, r1⟩ := r1
    obtain ⟨_, r2⟩ := r2
    unfold augSem at hs
    split at hs
    · rename_i e
      cases e
    · rename_i e
      cases e
    · obtain rfl := r1.int_of
      obtain rfl := r2.int_of
      cases hs
      exact ⟨_, _, rfl, rfl, hq _ (.int _) rfl⟩
    · cases hs
/-! ### x[i] = y -/
theorem ex_sto {i : Nat} {q a : E} {e e' : En} {fl : Fl} (h : ex Φ T.G (.sto i q a) e = some (fl, e')) : ∃ x e1 p d0 y e2 z, fl = .nx ∧ evo Φ T.G a e = some (x, e1) ∧ immO x = some p ∧ getE e1 i = some d0 ∧ evo Φ T.G q e1 = some (y, e2) ∧ immO y = some z ∧ stoSem i z p e2 = some e' := by
  simp only [ex] at h
  obtain ⟨⟨x, e1⟩, h1, h⟩ := bind_some h
  obtain ⟨p, h2, h⟩ := bind_some h
  obtain ⟨d0, h3, h⟩ := bind_some h
  obtain ⟨⟨y, e2⟩, h4, h⟩ := bind_some h
  obtain ⟨z, h5, h⟩ := bind_some h
  obtain ⟨e3, h6, h⟩ := bind_some h
  cases h
  exact ⟨x, e1, p, d0, y, e2, z, rfl, h1, h2, h3, h4, h5, h6⟩
theorem snd_sto {i : Nat} {q a : E} {x : Str} {v ix : Expr} {p p2 pos : Pos} (g : Good T Φ k sc X) (h1 : visB T.N sc i x = true) (h2 : notSlice ix = true) (h3 : chkE T sc q ix = true) (h4 : chkE T sc a v = true) (h5 : isComp v = false) :
    PS X (.Assign [.Subscript (.Name x p) ix p2] v pos) (tT X.K (ex Φ T.G (.sto i q a)) []) := by
  obtain ⟨v1, v2, v3, v4⟩ := vis_of h1
  have hx : PE X (.Name x p) (tVar i) := pe_var (i := i) (by rw [g.N]; exact v1) (by rw [g.scope]; exact v2) v3 v4
  have hv := (snd1 a g h4).pe
  have hq := (snd1 q g h3).pe
  refine PS.weak (ps_asg hv (pg_sub hx hq set_list (by intro v; cases ix <;> first | rfl | cases h2)) (swS_no h5 _ _) (swSt_no rfl _) rfl) fun D σ H h => ?_
  obtain ⟨e, F, fl, e', he, n, hf, hQ⟩ := h
  obtain ⟨xo, e1, p, d0, y, e2, z, rfl, k1, k2, k3, k4, k5, k6⟩ := ex_sto hf
  refine tO_mk he n k1 fun w H1 Fd F1 ox he1 n1 s1 => ?_
  obtain ⟨w1, rfl⟩ := immO_ok ox k2
  rw [List.nil_append] at n1 s1
  obtain ⟨v0, Fi, q1, q2, _⟩ := he1.get k3
  refine ⟨v0, q1, tO_mk he1 n1 k4 fun u H2 Fu F2 oy he2 n2 s2 => ?_⟩
  obtain ⟨u1, rfl⟩ := immO_ok oy k5
  rw [List.nil_append] at n2 s2
  have w2 := w1.keep (s2.keeps he1.mut)
  unfold stoSem at k6
  split at k6
  · rename_i xs j hxs
    obtain ⟨m, m1, m2⟩ := bind_some k6
    cases m2
    cases u1
    obtain ⟨a0, vs0, a1, a2, a3, a4, a5⟩ := he2.write n2 hxs
    rw [q1] at a1
    cases a1
    obtain ⟨F3, b1, b2, b3, b4⟩ := a5 (vs0.set m w) (xs.set m p) (a3.set w2 m)
    refine ⟨a0, vs0, j, m, rfl, rfl, a2, by rw [a3.length, ← ixP_eq]; exact m1, ?_⟩
    exact hQ _ _ F3 b1 b2 ((s1.trans s2).trans b4) (Agr.refl _ _)
  · cases k6
/-! ### small ones -/
theorem snd_ex {a : E} {v : Expr} {pos : Pos} (g : Good T Φ k sc X) (h1 : chkE T sc a v = true) (h2 : isComp v = false) : PS X (.Expr v pos) (tT X.K (ex Φ T.G (.ex a)) []) :=
  PS.weak (ps_expr (snd1 a g h1).pe (sw_no h2 _ _ _)) fun D σ H h => by
    obtain ⟨e, F, fl, e', he, n, hf, hQ⟩ := h
    simp only [ex] at hf
    obtain ⟨⟨x, e1⟩, h1, hf⟩ := bind_some hf
    cases hf
    exact tO_mk he n h1 fun v H1 Fd F1 ox he1 n1 s1 => hQ _ H1 F1 he1 (nd_right n1) (stp_drop s1) (Agr.refl _ _)
theorem snd_ret {a : E} {v : Expr} {pos : Pos} (g : Good T Φ k sc X) (h1 : chkE T sc a v = true) : PS X (.Return (some v) pos) (tT X.K (ex Φ T.G (.ret a)) []) :=
  PS.weak (ps_ret (snd1 a g h1).pe) fun D σ H h => by
    obtain ⟨e, F, fl, e', he, n, hf, hQ⟩ := h
    simp only [ex] at hf
    obtain ⟨⟨x, e1⟩, h1, hf⟩ := bind_some hf
    refine tO_mk he n h1 fun v H1 Fd F1 ox he1 n1 s1 => ?_
    cases x with
    | tmp d =>
      cases hf
      exact hQ v σ H1 Fd F1 ox he1 n1 s1 (Agr.refl _ _)
    | slot i =>
      obtain ⟨d, h2, h3⟩ := bind_some (show (getE e1 i).bind (fun d => some (Fl.rt d, e1.set i none)) = some (fl, e') from hf)
      cases h3
      obtain ⟨hi, rfl⟩ := (show σ[i]? = some (some v) ∧ Fd = [] from ox)
      obtain ⟨v', Fi, F', q1, q2, q3, q4, q5⟩ := he1.out h2
      rw [hi] at q1
      cases q1
      exact hQ v σ H1 Fi F' q2 q3 (q5 n1) (stp_pick s1 q4) (Agr.refl _ _)
theorem snd_ret0 {pos : Pos} : PS X (.Return none pos) (tT X.K (ex Φ T.G .ret0) []) := PS.weak ps_retN fun D σ H h => by
  obtain ⟨e, F, fl, e', he, n, hf, hQ⟩ := h
  simp only [ex, Option.some.injEq, Prod.mk.injEq] at hf
  obtain ⟨rfl, rfl⟩ := hf
  exact hQ .non σ H [] F (Rep.imm .non) he n (Stp.refl _ _) (Agr.refl _ _)
theorem snd_brk {pos : Pos} : PS X (.Break pos) (tT X.K (ex Φ T.G .brk) []) := PS.weak ps_break fun D σ H h => by
  obtain ⟨e, F, fl, e', he, n, hf, hQ⟩ := h
  simp only [ex, Option.some.injEq, Prod.mk.injEq] at hf
  obtain ⟨rfl, rfl⟩ := hf
  exact hQ σ H F he n (Stp.refl _ _) (Agr.refl _ _)
theorem snd_cont {pos : Pos} : PS X (.Continue pos) (tT X.K (ex Φ T.G .cont) []) := PS.weak ps_continue fun D σ H h => by
  obtain ⟨e, F, fl, e', he, n, hf, hQ⟩ := h
  simp only [ex, Option.some.injEq, Prod.mk.injEq] at hf
  obtain ⟨rfl, rfl⟩ := hf
  exact hQ σ H F he n (Stp.refl _ _) (Agr.refl _ _)
theorem snd_pass {pos : Pos} : PS X (.Pass pos) (tT X.K (ex Φ T.G .pass) []) := PS.weak ps_pass fun D σ H h => by
  obtain ⟨e, F, fl, e', he, n, hf, hQ⟩ := h
  simp only [ex, Option.some.injEq, Prod.mk.injEq] at hf
  obtain ⟨rfl, rfl⟩ := hf
  exact hQ σ H F he n (Stp.refl _ _) (Agr.refl _ _)
theorem snd_never {s : Stmt} : PS X s (tT X.K (ex Φ T.G .never) []) := PS.weak ps_never fun D σ H h => by
  obtain ⟨e, F, fl, e', he, n, hf, hQ⟩ := h
  simp [ex] at hf
end
end Sw
set_option maxHeartbeats 1000000
/-! Sw, part 20: control flow; functions. -/
namespace Sw
open PySem PySem.Spec PyProof.Rows L2
section
variable {W : Tab} {Φ : CallS} {k : Nat} {sc : Scope} {X : Cx}
theorem ORs.slots2 {K : PySem.W.Frag} {H : Hp} {σ τ : L2.St} {vs : List V} {os : List Opd} {F : List Addr} {l : List Nat} (h : ORs K H σ vs os F) (a : Agr l σ τ) (hf : freeOf os l = true) : ORs K H τ vs os F := h.slots fun i z => a.2 i (free_not hf i z)
/-! ### if -/
theorem ex_ifs {t : E} {a b : List T} {e e' : En} {fl : Fl} (h : ex Φ W.G (.ifs t a b) e = some (fl, e')) : ∃ x d k e1, evo Φ W.G t e = some (x, e1) ∧ resv e1 x = some d ∧ truth d = some k ∧ (if k then exs Φ W.G a e1 else exs Φ W.G b e1) = some (fl, e') := by
  simp only [ex] at h
  obtain ⟨⟨x, e1⟩, h1, h⟩ := bind_some h
  obtain ⟨d, h2, h⟩ := bind_some h
  obtain ⟨k, h3, h⟩ := bind_some h
  exact ⟨x, d, k, e1, h1, h2, h3, h⟩
theorem snd_if {t : E} {a b : List T} {c : Expr} {x y : List Stmt} {pos : Pos} (hc : PT X c (tTst X.K (evo Φ W.G t))) (ha : PSs X x (tT X.K (exs Φ W.G a) (asgTs a))) (hb : PSs X y (tT X.K (exs Φ W.G b) (asgTs b))) :
    PS X (.If c x y pos) (tT X.K (ex Φ W.G (.ifs t a b)) (asgTs a ++ asgTs b)) := PS.weak (ps_if hc ha hb) fun D σ H h => by
  obtain ⟨e, F, fl, e', he, n, hf, hQ⟩ := h
  obtain ⟨o, d, k, e1, h1, h2, h3, h4⟩ := ex_ifs hf
  refine ⟨e, F, o, e1, d, k, he, n, h1, h2, h3, fun H1 F1 he1 n1 s1 => ?_⟩
  cases k with
  | true =>
    rw [if_pos rfl] at h4 ⊢
    exact ⟨e1, F1, fl, e', he1, n1, h4, hQ.step s1 (Agr.refl _ _) (fun j z => z) fun j z => List.mem_append_left _ z⟩
  | false =>
    rw [if_neg Bool.false_ne_true] at h4 ⊢
    exact ⟨e1, F1, fl, e', he1, n1, h4, hQ.step s1 (Agr.refl _ _) (fun j z => z) fun j z => List.mem_append_right _ z⟩
/-! ### while -/
def stepW (Φ : CallS) (G : List P) (t : E) (body : List T) (e : En) : Option (Bool × Fl × En) := (evo Φ G t e).bind fun x => (resv x.2 x.1).bind fun d => (truth d).bind fun k => if k then (exs Φ G body x.2).bind fun r => some (true, r.1, r.2) else some (false, .nx, x.2)
theorem ex_whl {n : Nat} {t : E} {body : List T} {e : En} : ex Φ W.G (.whl n t body) e = whlL (stepW Φ W.G t body) n e := by
  simp only [ex]
  rfl
theorem snd_whl {n : Nat} {t : E} {body : List T} {c : Expr} {x : List Stmt} {pos : Pos} (d : DefCx X) (hc : PT X c (tTst X.K (evo Φ W.G t))) (hb : PSs X x (tT X.K (exs Φ W.G body) (asgTs body))) :
    PS X (.While c x [] pos) (tT X.K (ex Φ W.G (.whl n t body)) (asgTs body)) := PS.weak (ps_while d.own hc hb) fun D σ H h => by
  obtain ⟨e, F, fl, e', he, nd, hf, hQ⟩ := h
  rw [ex_whl] at hf
  refine ⟨fun m σ1 H1 => ∃ e1 F1, EnvRep X.K H1 σ1 e1 F1 ∧ F1.Nodup ∧ Stp H F H1 F1 ∧ Agr (asgTs body) σ σ1 ∧ whlL (stepW Φ W.G t body) m e1 = some (fl, e'), ⟨n, e, F, he, nd, Stp.refl _ _, Agr.refl _ _, hf⟩, fun m σ1 H1 hw => ?_⟩
  obtain ⟨e1, F1, he1, n1, s1, a1, hl⟩ := hw
  cases m with
  | zero => simp [whlL] at hl
  | succ m =>
    unfold whlL at hl
    obtain ⟨⟨b, f1, e2⟩, hs, hl⟩ := bind_some hl
    unfold stepW at hs
    obtain ⟨⟨o, e3⟩, g1, hs⟩ := bind_some hs
    obtain ⟨dv, g2, hs⟩ := bind_some hs
    obtain ⟨kb, g3, hs⟩ := bind_some hs
    refine ⟨e1, F1, o, e3, dv, kb, he1, n1, g1, g2, g3, fun H2 F2 he2 n2 s2 => ?_⟩
    cases kb with
    | false =>
      rw [if_neg Bool.false_ne_true] at hs ⊢
      cases hs
      rw [if_neg Bool.false_ne_true] at hl
      cases hl
      exact hQ σ1 H2 F2 he2 n2 (s1.trans s2) a1
    | true =>
      rw [if_pos rfl] at hs ⊢
      obtain ⟨⟨f2, e4⟩, g4, hs⟩ := bind_some hs
      cases hs
      rw [if_pos rfl] at hl
      refine ⟨fun σ' H' => ∃ e1 F1, EnvRep X.K H' σ' e1 F1 ∧ F1.Nodup ∧ Stp H F H' F1 ∧ Agr (asgTs body) σ σ' ∧ whlL (stepW Φ W.G t body) m e1 = some (fl, e'), fun σ' H' hn => ⟨m, Nat.lt_succ_self m, hn⟩, ?_⟩
      refine ⟨e3, F2, f2, e4, he2, n2, g4, ?_⟩
      cases f2 with
      | nx => exact fun σ' H' F' r nn q ag => ⟨e4, F', r, nn, (s1.trans s2).trans q, a1.trans ag, hl⟩
      | ct => exact fun σ' H' F' r nn q ag => ⟨e4, F', r, nn, (s1.trans s2).trans q, a1.trans ag, hl⟩
      | bk =>
        cases hl
        exact fun σ' H' F' r nn q ag => hQ σ' H' F' r nn ((s1.trans s2).trans q) (a1.trans ag)
      | rt dr =>
        cases hl
        exact fun v σ' H' Fd F' r r2 nn q ag => hQ v σ' H' Fd F' r r2 nn ((s1.trans s2).trans q) (a1.trans ag)
/-! ### for -/
def stepF (Φ : CallS) (G : List P) (t : Pat) (body : List T) (p : P) (e2 : En) : Option (Fl × En) := (bindP t p e2).bind fun e3 => exs Φ G body e3
theorem ex_for {t : Pat} {ik : IK} {as : List E} {body : List T} {e e' : En} {fl : Fl} (h : ex Φ W.G (.fors t ik as body) e = some (fl, e')) : ∃ os e1 ds ps, evos Φ W.G as e = some (os, e1) ∧ resvs e1 os = some ds ∧ items ik ds = some ps ∧ freeOf os (asgP t ++ asgTs body) = true ∧
    forL (stepF Φ W.G t body) (fun e' => lockOk os e1 e') ps e1 = some (fl, e') := by
  simp only [ex] at h
  obtain ⟨⟨os, e1⟩, h1, h⟩ := bind_some h
  obtain ⟨ds, h2, h⟩ := bind_some h
  obtain ⟨ps, h3, h⟩ := bind_some h
  split at h
  · rename_i c
    exact ⟨os, e1, ds, ps, h1, h2, h3, c, h⟩
  · cases h
theorem snd_for {t : Pat} {ik : IK} {as : List E} {body : List T} {tg iter : Expr} {x : List Stmt} {pos : Pos} (g : Good W Φ k sc X) (d : DefCx X) (hi : PI X tg iter (tI X.K ik (evos Φ W.G as))) (hg : PG X tg (tG X.K t)) (hset : notSet iter = true) (hb : PSs X x (tT X.K (exs Φ W.G body) (asgTs body))) :
    PS X (.For tg iter x [] pos) (tT X.K (ex Φ W.G (.fors t ik as body)) (asgP t ++ asgTs body)) := PS.weak (ps_for d.own g.calm hi hg hb (notSet_of hset _)) fun D σ H h => by
  obtain ⟨e, F, fl, e', he, nd, hf, hQ⟩ := h
  obtain ⟨os, e1, ds, ps, h1, h2, h3, hfree, hL⟩ := ex_for hf
  refine ⟨e, F, os, e1, ds, ps, he, nd, h1, h2, h3, fun J vs H1 Fd F1 ors he1 n1 s1 walk => ?_⟩
  refine for_it walk (fun i σ' H' => ∃ ei Fi Gd, ORs X.K H' σ' vs os Gd ∧ EnvRep X.K H' σ' ei Fi ∧ (Gd ++ Fi).Nodup ∧ Stp H F H' (Gd ++ Fi) ∧ Agr (asgP t ++ asgTs body) σ σ' ∧ lockOk os e1 ei = true ∧ forL (stepF Φ W.G t body) (fun e' => lockOk os e1 e') (ps.drop i) ei = some (fl, e'))
    ⟨e1, F1, Fd, ors, he1, n1, s1, Agr.refl _ _, lock_refl _ _, by rw [List.drop_zero]; exact hL⟩ (fun i σ' H' _ hp => ?_) (fun i y σ1 H2 H3 hi hp hy => ?_) (fun σ' H' hp => ?_)
  · obtain ⟨ei, Fi, Gd, c1, c2, c3, c4, c5, c6, c7⟩ := hp
    exact resvs_ok c2 c1 (by rw [lock_get c6]; exact h2)
  · obtain ⟨ei, Fi, Gd, c1, c2, c3, c4, c5, c6, c7⟩ := hp
    obtain ⟨sm, p, hp1, hp2⟩ := hy
    have hdr : ps.drop i = p :: ps.drop (i + 1) := by
      obtain ⟨hlt, e⟩ := List.getElem?_eq_some_iff.mp hp1
      rw [List.drop_eq_getElem_cons hlt, e]
    rw [hdr] at c7
    unfold forL at c7
    obtain ⟨⟨f1, e2⟩, hs, hl⟩ := bind_some c7
    unfold stepF at hs
    obtain ⟨e3, hs1, hs2⟩ := bind_some hs
    have c2' := c2.same sm
    have c1' : ORs X.K H3 σ1 vs os Gd := c1.mono (Keeps.of_same sm) (same_off sm c1.mut)
    refine ⟨ei, Fi, p, e3, c2', nd_right c3, hp2, hs1, fun σ2 F2 r2 n2 sub2 ag2 => ?_⟩
    have st2 : Stp H F H3 (Gd ++ F2) := stp_pick (c4.trans (Stp.of_same sm)) fun a z => (List.mem_append.mp z).elim (fun z => List.mem_append_left _ z) fun z => List.mem_append_right _ (sub2 a z)
    have nd2 : (Gd ++ F2).Nodup := nd_mk (nd_left c3) n2 fun a z y => nd_off c3 a z (sub2 a y)
    have ag2' : Agr (asgP t ++ asgTs body) σ1 σ2 := ag2.mono fun j z => List.mem_append_left _ z
    have o2 : ORs X.K H3 σ2 vs os Gd := c1'.slots2 ag2' hfree
    refine ⟨e3, F2, f1, e2, r2, n2, hs2, ?_⟩
    have again : (if lockOk os e1 e2 = true then forL (stepF Φ W.G t body) (fun e' => lockOk os e1 e') (ps.drop (i + 1)) e2 else none) = some (fl, e') → ∀ (σ' : L2.St) (H' : Hp) (F' : List Addr), EnvRep X.K H' σ' e2 F' → F'.Nodup → Stp H3 F2 H' F' → Agr (asgTs body) σ2 σ' →
        ∃ ei Fi Gd, ORs X.K H' σ' vs os Gd ∧ EnvRep X.K H' σ' ei Fi ∧ (Gd ++ Fi).Nodup ∧ Stp H F H' (Gd ++ Fi) ∧ Agr (asgP t ++ asgTs body) σ σ' ∧ lockOk os e1 ei = true ∧ forL (stepF Φ W.G t body) (fun e' => lockOk os e1 e') (ps.drop (i + 1)) ei = some (fl, e') := fun hl σ' H' F' r nn q ag => by
      split at hl
      · rename_i lk
        have ag' : Agr (asgP t ++ asgTs body) σ2 σ' := ag.mono fun j z => List.mem_append_right _ z
        obtain ⟨k1, k2⟩ := stp_keep q r2.mut o2.mut nd2
        obtain ⟨k3, k4⟩ := stp_two st2 nd2 o2.mut q nn
        exact ⟨e2, F', Gd, (o2.mono k1 k2).slots2 ag' hfree, r, k4, k3, (c5.trans ag2').trans ag', lk, hl⟩
      · cases hl
    have out : ∀ (σ' : L2.St) (H' : Hp) (F' : List Addr), F'.Nodup → Stp H3 F2 H' F' → Agr (asgTs body) σ2 σ' → Stp H F H' F' ∧ Agr (asgP t ++ asgTs body) σ σ' := fun σ' H' F' nn q ag =>
      ⟨(stp_pick st2 fun a z => List.mem_append_right _ z).trans q, (c5.trans ag2').trans (ag.mono fun j z => List.mem_append_right _ z)⟩
    cases f1 with
    | nx => exact again hl
    | ct => exact again hl
    | bk =>
      cases hl
      exact fun σ' H' F' r nn q ag => hQ σ' H' F' r nn (out σ' H' F' nn q ag).1 (out σ' H' F' nn q ag).2
    | rt dr =>
      cases hl
      exact fun v σ' H' Fd F' r r2 nn q ag => hQ v σ' H' Fd F' r r2 nn ((stp_pick st2 fun a z => List.mem_append_right _ z).trans q) ((c5.trans ag2').trans (ag.mono fun j z => List.mem_append_right _ z))
  · obtain ⟨ei, Fi, Gd, c1, c2, c3, c4, c5, c6, c7⟩ := hp
    rw [List.drop_length] at c7
    unfold forL at c7
    cases c7
    exact hQ σ' H' Fi c2 (nd_right c3) (stp_drop c4) c5
/-! ### blocks -/
theorem snd_snil : PSs X [] (tT X.K (exs Φ W.G []) (asgTs [])) := by
  refine ⟨fun pins s σ H D I h => pss_nil.run pins s σ H D I ?_⟩
  obtain ⟨e, F, fl, e', he, n, hf, hQ⟩ := h
  simp only [exs, Option.some.injEq, Prod.mk.injEq] at hf
  obtain ⟨rfl, rfl⟩ := hf
  exact hQ σ H F he n (Stp.refl _ _) (Agr.refl _ _)
theorem snd_scons {a : T} {as : List T} {s : Stmt} {ss : List Stmt} (ha : PS X s (tT X.K (ex Φ W.G a) (asgT a))) (hs : PSs X ss (tT X.K (exs Φ W.G as) (asgTs as))) : PSs X (s :: ss) (tT X.K (exs Φ W.G (a :: as)) (asgTs (a :: as))) := by
  refine PSs.weak (pss_cons ha hs) fun D σ H h => ?_
  obtain ⟨e, F, fl, e', he, n, hf, hQ⟩ := h
  simp only [exs] at hf
  simp only [asgTs] at hQ
  obtain ⟨⟨f1, e1⟩, h1, h2⟩ := bind_some hf
  refine ⟨e, F, f1, e1, he, n, h1, ?_⟩
  cases f1 with
  | nx => exact fun σ1 H1 F1 r n1 s1 a1 => ⟨e1, F1, fl, e', r, n1, h2, hQ.step s1 a1 (fun j z => List.mem_append_left _ z) fun j z => List.mem_append_right _ z⟩
  | bk =>
    cases h2
    exact fun σ1 H1 F1 r n1 s1 a1 => hQ σ1 H1 F1 r n1 s1 (a1.mono fun j z => List.mem_append_left _ z)
  | ct =>
    cases h2
    exact fun σ1 H1 F1 r n1 s1 a1 => hQ σ1 H1 F1 r n1 s1 (a1.mono fun j z => List.mem_append_left _ z)
  | rt d =>
    cases h2
    exact fun v σ1 H1 Fd F1 r r2 n1 s1 a1 => hQ v σ1 H1 Fd F1 r r2 n1 s1 (a1.mono fun j z => List.mem_append_left _ z)
mutual
theorem sndT : ∀ (a : T) {s : Stmt}, Good W Φ k sc X → DefCx X → chkT W sc a s = true → PS X s (tT X.K (ex Φ W.G a) (asgT a))
  | .asg t a, s, g, d, h => by
    unfold chkT at h
    split at h <;> first | (cases h; done) | skip
    obtain ⟨h1, h2⟩ := and2 h
    obtain ⟨h3, h4⟩ := and2 h1
    simp only [asgT]
    rcases (Bool.or_eq_true _ _).mp h2 with h2 | h2
    · exact snd_asg g d h3 h4 h2
    · obtain ⟨h5, h6⟩ := and2 h2
      cases a <;> first | (cases h5; done) | exact snd_asgL g d h3 h4 h6
  | .par is es, s, g, d, h => by
    unfold chkT at h
    split at h <;> first | (cases h; done) | skip
    obtain ⟨h1, h2⟩ := and2 h
    obtain ⟨h3, h4⟩ := and2 h1
    obtain ⟨h5, h6⟩ := and2 h3
    obtain ⟨h7, h8⟩ := and2 h5
    simp only [asgT]
    exact snd_par g d h7 (of_decide_eq_true h8) (of_decide_eq_true h6) h4 h2
  | .aug i o a, s, g, d, h => by
    unfold chkT at h
    split at h <;> first | (cases h; done) | skip
    obtain ⟨h1, h2⟩ := and2 h
    obtain ⟨h3, h4⟩ := and2 h1
    obtain ⟨h5, h6⟩ := and2 h3
    simp only [asgT]
    exact snd_aug g d h5 h6 (of_decide_eq_true h4) h2
  | .sto i q a, s, g, d, h => by
    unfold chkT at h
    split at h <;> first | (cases h; done) | skip
    obtain ⟨h1, h2⟩ := and2 h
    obtain ⟨h3, h4⟩ := and2 h1
    obtain ⟨h5, h6⟩ := and2 h3
    obtain ⟨h7, h8⟩ := and2 h5
    rw [Bool.not_eq_true'] at h2
    simp only [asgT]
    exact snd_sto g h7 h8 h6 h4 h2
  | .augs _ _ _ _, s, g, d, h => by simp [chkT] at h
  | .ex a, s, g, d, h => by
    unfold chkT at h
    split at h <;> first | (cases h; done) | skip
    obtain ⟨h1, h2⟩ := and2 h
    rw [Bool.not_eq_true'] at h2
    simp only [asgT]
    exact snd_ex g h1 h2
  | .ret a, s, g, d, h => by
    unfold chkT at h
    split at h <;> first | (cases h; done) | skip
    simp only [asgT]
    exact snd_ret g h
  | .ret0, s, g, d, h => by
    unfold chkT at h
    split at h <;> first | (cases h; done) | skip
    simp only [asgT]
    exact snd_ret0
  | .ifs t a b, s, g, d, h => by
    have ia := fun {ss : List Stmt} (h : chkTs W sc a ss = true) => sndTs a g d h
    have ib := fun {ss : List Stmt} (h : chkTs W sc b ss = true) => sndTs b g d h
    unfold chkT at h
    split at h <;> first | (cases h; done) | skip
    obtain ⟨h1, h2⟩ := and2 h
    obtain ⟨h3, h4⟩ := and2 h1
    obtain ⟨h5, h6⟩ := and2 h3
    simp only [asgT]
    exact snd_if ((snd1 t g h5).pt h6) (ia h4) (ib h2)
  | .fors t ik as body, s, g, d, h => by
    have ib := fun {ss : List Stmt} (h : chkTs W sc body ss = true) => sndTs body g d h
    unfold chkT at h
    split at h <;> first | (cases h; done) | skip
    obtain ⟨h1, h2⟩ := and2 h
    obtain ⟨h3, h4⟩ := and2 h1
    have ind := fun {xs : List Expr} (h : chkEs W sc as xs = true) => snds as g h
    simp only [asgT]
    refine snd_for g d (snd_I g h4 (fun a y e z => ?_) fun xs z => (ind z).pa) (pat_def g d h3) (chkI_set h4) (ib h2)
    subst e
    exact ((ind (xs := [y]) (by simp [chkEs, z, chkE_star z])).one a y rfl rfl).pe
  | .whl n t body, s, g, d, h => by
    have ib := fun {ss : List Stmt} (h : chkTs W sc body ss = true) => sndTs body g d h
    unfold chkT at h
    split at h <;> first | (cases h; done) | skip
    obtain ⟨h1, h2⟩ := and2 h
    obtain ⟨h3, h4⟩ := and2 h1
    simp only [asgT]
    exact snd_whl d ((snd1 t g h3).pt h4) (ib h2)
  | .brk, s, g, d, h => by
    unfold chkT at h
    split at h <;> first | (cases h; done) | skip
    simp only [asgT]
    exact snd_brk
  | .cont, s, g, d, h => by
    unfold chkT at h
    split at h <;> first | (cases h; done) | skip
    simp only [asgT]
    exact snd_cont
  | .pass, s, g, d, h => by
    unfold chkT at h
    split at h <;> first | (cases h; done) | skip
    simp only [asgT]
    exact snd_pass
  | .never, s, g, d, h => by
    simp only [asgT]
    exact snd_never
theorem sndTs : ∀ (as : List T) {ss : List Stmt}, Good W Φ k sc X → DefCx X → chkTs W sc as ss = true → PSs X ss (tT X.K (exs Φ W.G as) (asgTs as))
  | [], ss, g, d, h => by
    cases ss with
    | nil => exact snd_snil
    | cons _ _ => simp [chkTs] at h
  | a :: as, ss, g, d, h => by
    cases ss with
    | nil => simp [chkTs] at h
    | cons s ss =>
      simp only [chkTs] at h
      obtain ⟨h1, h2⟩ := and2 h
      exact snd_scons (sndT a g d h1) (sndTs as g d h2)
end
end
end Sw
set_option maxHeartbeats 1000000
/-! Sw, part 21: the functions' table, the law. -/
namespace Sw
open PySem PySem.Spec PyProof.Rows L2
structure DS where
  d : He.DefD
  ps : List Str
  N : List Str
  fn : Fn
def fnsOf (defs : List DS) : List (Str × Nat) := defs.map fun D => (D.d.name, D.ps.length)
def progOf (defs : List DS) : List Fn := defs.map fun D => D.fn
def scopeB (N ps : List Str) (sc : Scope) : Bool :=
  (match sc.kind with | .function => true | _ => false) && !sc.isCoroutine && !sc.isGenerator && decide N.Nodup && decide (N.take ps.length = ps) && ps.all (fun x => lookB sc x .local || lookB sc x .cell) && sc.names.all fun y => (match y.2 with | .free => false | _ => true)
theorem scopeB_ok {N ps : List Str} {sc : Scope} (h : scopeB N ps sc = true) : FnScope N ps sc := by
  unfold scopeB at h
  obtain ⟨h, h7⟩ := and2 h
  obtain ⟨h, h6⟩ := and2 h
  obtain ⟨h, h5⟩ := and2 h
  obtain ⟨h, h4⟩ := and2 h
  obtain ⟨h, h3⟩ := and2 h
  obtain ⟨h1, h2⟩ := and2 h
  rw [Bool.not_eq_true'] at h2 h3
  refine ⟨?_, h2, h3, of_decide_eq_true h4, of_decide_eq_true h5, fun x hx => ?_, fun y hy e => ?_⟩
  · split at h1
    · assumption
    · cases h1
  · have := List.all_eq_true.mp h6 x hx
    rcases (Bool.or_eq_true _ _).mp this with q | q
    · exact .inl (look_of q)
    · exact .inr (look_of q)
  · have := List.all_eq_true.mp h7 y hy
    rw [e] at this
    cases this
def okD (fns : List (Str × Nat)) (glos : List (Str × P)) (D : DS) : Bool := chkTs ⟨D.N, fns, glos⟩ D.d.scope D.fn.body D.d.body && decide (D.fn.np = D.ps.length) && decide (D.fn.n = D.N.length) && scopeB D.N D.ps D.d.scope && D.d.dfl.isEmpty && D.d.kwd.isEmpty
section
variable {K : PySem.W.Frag} {H H' : Hp}
theorem Reps.start {vs : List V} {ds : List D} {F : List Addr} (h : Reps K H vs ds F) (m : Nat) : EnvRep K H (vs.map some ++ List.replicate m none) (ds.map some ++ List.replicate m none) F := by
  induction h with
  | nil =>
    induction m with
    | zero => exact .nil
    | succ m ih => exact .ns ih
  | cons r _ ih => exact .sm r ih
theorem Reps.length {vs : List V} {ds : List D} {F : List Addr} (h : Reps K H vs ds F) : vs.length = ds.length := by
  induction h with
  | nil => rfl
  | cons _ _ ih => rw [List.length_cons, List.length_cons, ih]
theorem outs_set {asg : List Nat} {e : En} {j : Nat} {z : Option D} : ∀ {ds : List D} {i : Nat}, j < i → outs asg (e.set j z) ds i = outs asg e ds i
  | [], _, _ => by simp only [outs]
  | d :: ds, i, h => by
    have ih := outs_set (asg := asg) (e := e) (z := z) (ds := ds) (i := i + 1) (Nat.lt_succ_of_lt h)
    simp only [outs, ih]
    rw [getE_set_ne e z (Nat.ne_of_lt h)]
theorem outs_ok {asg : List Nat} {σ' : L2.St} : ∀ {vs : List V} {ds : List D} {Fs : List Addr}, Reps K H vs ds Fs → Keeps H H' → ∀ {e : En} {F : List Addr} {i : Nat} {rs : List D}, EnvRep K H' σ' e F → F.Nodup → (∀ j, j + i ∉ asg → ∀ v, vs[j]? = some v → σ'[j + i]? = some (some v)) → outs asg e ds i = some rs →
    ∃ Fr, Reps K H' vs rs Fr ∧ Fr.Nodup ∧ ∀ a, a ∈ Fr → a ∈ F := by
  intro vs ds Fs h kp
  induction h with
  | nil =>
    intro e F i rs he n _ ho
    simp only [outs, Option.some.injEq] at ho
    subst ho
    exact ⟨[], .nil, List.nodup_nil, fun a z => nomatch z⟩
  | @cons v vs d ds F0 G0 r _ ih =>
    intro e F i rs he n hs ho
    simp only [outs] at ho
    obtain ⟨r0, h1, ho⟩ := bind_some ho
    obtain ⟨rs', h2, ho⟩ := bind_some ho
    cases ho
    have hs' : ∀ j, j + (i + 1) ∉ asg → ∀ w, vs[j]? = some w → σ'[j + (i + 1)]? = some (some w) := fun j hj w hw => by
      have := hs (j + 1) (by rw [Nat.add_right_comm]; exact hj) w (by simpa using hw)
      rw [Nat.add_right_comm] at this
      exact this
    cases d with
    | imm p =>
      cases h1
      obtain ⟨rp, _⟩ := r.imm_of
      obtain ⟨Fr, g1, g2, g3⟩ := ih he n hs' h2
      exact ⟨[] ++ Fr, .cons (Rep.imm (rp.keep kp)) g1, g2, g3⟩
    | lst ps =>
      have h1 : (if asg.contains i then none else getE e i) = some r0 := h1
      split at h1
      · cases h1
      · rename_i hc
        have hi : i ∉ asg := fun z => hc (by simpa using z)
        obtain ⟨w, Fi, F', q1, q2, q3, q4, q5⟩ := he.out h1
        have e1 := hs 0 (by rw [Nat.zero_add]; exact hi) v (by simp)
        rw [Nat.zero_add, q1] at e1
        cases e1
        have n5 := q5 n
        obtain ⟨Fr, g1, g2, g3⟩ := ih q3 (nd_right n5) hs' (by rw [outs_set (Nat.lt_succ_self i)]; exact h2)
        refine ⟨Fi ++ Fr, .cons q2 g1, nd_mk (nd_left n5) g2 fun a z y => nd_off n5 a z (g3 a y), fun a z => q4 a ?_⟩
        rcases List.mem_append.mp z with z | z
        · exact List.mem_append_left _ z
        · exact List.mem_append_right _ (g3 a z)
end
theorem callF_succ {prog : List Fn} {G : List P} {k j : Nat} {ds : List D} {d : D} {rs : List D} (h : callF prog G (k + 1) j ds = some (d, rs)) : ∃ fn fl e', prog[j]? = some fn ∧ ds.length = fn.np ∧ exs (callF prog G k) G fn.body (ds.map some ++ List.replicate (fn.n - fn.np) none) = some (fl, e') ∧
    ((fl = .nx ∧ d = .imm .non) ∨ fl = .rt d) ∧ outs (asgTs fn.body) e' ds 0 = some rs := by
  unfold callF at h
  obtain ⟨fn, h1, h⟩ := bind_some h
  split at h
  · rename_i hl
    obtain ⟨⟨fl, e'⟩, h2, h⟩ := bind_some h
    cases fl with
    | nx =>
      obtain ⟨rs', h3, h⟩ := bind_some h
      cases h
      exact ⟨fn, .nx, e', h1, hl, h2, .inl ⟨rfl, rfl⟩, h3⟩
    | rt d' =>
      obtain ⟨rs', h3, h⟩ := bind_some h
      cases h
      exact ⟨fn, .rt _, e', h1, hl, h2, .inr rfl, h3⟩
    | bk => cases h
    | ct => cases h
  · cases h
structure World0 (K : PySem.W.Frag) (mg : Str → Option Value) (defs : List DS) (glos : List (Str × P)) : Prop where
  fns : ∀ D ∈ defs, mg D.d.name = some (.ref (He.fAd K D.d.at_)) ∧ ∃ fd, FunD K D.d.name D.d.qual D.d.params D.d.body D.d.scope (D.d.dvs K) (D.d.kws K) (He.fAd K D.d.at_) fd
  bind : ∀ D ∈ defs, ∀ (kV doc pm : Value) (an : Option Addr) (cdv ct : Value) (us : List Value), us.length = D.ps.length → bindArgs (PySem.W.fnOf D.d.name D.d.qual D.d.params D.d.body D.d.scope .none kV doc pm an cdv ct) ⟨us, []⟩ = pure (D.ps.zip us)
  chk : ∀ D ∈ defs, okD (fnsOf defs) glos D = true
  glos : ∀ (j : Nat) (x : Str) (p : P), glos[j]? = some (x, p) → ∃ (u : Value) (v : V), mg x = some u ∧ RelV v u ∧ ∀ H, PRep K H v p
  blt : ∀ x ∈ bltNames, mg x = none
section
variable {K : PySem.W.Frag} {mg : Str → Option Value} {defs : List DS} {glos : List (Str × P)}
theorem len_of {φ : List D → Option (D × List D)} {n : Nat} (h : ∀ ds d rs, φ ds = some (d, rs) → ds.length = n) : ∀ vs H Q E, spD K φ vs H Q E → vs.length = n := fun vs H Q E hs => by
  obtain ⟨ds, Fs, d, rs, h1, _, h3, _⟩ := hs
  rw [h1.length, h ds d rs h3]
theorem fn_all (Y : World0 K mg defs glos) (P' : Program) (w : World) (base : Heap) : ∀ (k j : Nat) (D : DS) (fd : FuncData), defs[j]? = some D → FunD K D.d.name D.d.qual D.d.params D.d.body D.d.scope (D.d.dvs K) (D.d.kws K) (He.fAd K D.d.at_) fd → Binds K fd D.ps [] ∧ PySem.W.keepIn K (.ref (He.fAd K D.d.at_)) = true ∧ (∀ (s : Shared) (us : List Value), us.length = D.ps.length → BindsTo s fd ⟨us, []⟩ (D.ps.zip us)) ∧
    FnOk P' w K mg base CX0 k (He.fAd K D.d.at_) fd D.ps (spD K (callF (progOf defs) (glos.map (·.2)) k j)) := by
  intro k
  induction k with
  | zero =>
    intro j D fd hj F
    have hm := List.mem_of_getElem? hj
    obtain ⟨h1, _⟩ := Y.fns D hm
    have hc := Y.chk D hm
    unfold okD at hc
    obtain ⟨hc, c6⟩ := and2 hc
    obtain ⟨hc, c5⟩ := and2 hc
    have ed : D.d.dvs K = [] := by unfold He.DefD.dvs; rw [List.isEmpty_iff.mp c5] <;> rfl
    rw [ed] at F
    refine ⟨F.bindsN (Y.bind D hm), F.kp, F.bindsA (Y.bind D hm), ⟨fun vs H Q E hs => ?_, fun A outer s H args us vs Q E _ _ _ _ hs => ?_⟩⟩
    · obtain ⟨ds, Fs, d, rs, _, _, h3, _⟩ := hs
      simp [callF] at h3
    · obtain ⟨ds, Fs, d, rs, _, _, h3, _⟩ := hs
      simp [callF] at h3
  | succ k ih =>
    intro j D fd hj F
    have hm := List.mem_of_getElem? hj
    obtain ⟨h1, _⟩ := Y.fns D hm
    have hc := Y.chk D hm
    unfold okD at hc
    obtain ⟨hc, c6⟩ := and2 hc
    obtain ⟨hc, c5⟩ := and2 hc
    obtain ⟨hc, c4⟩ := and2 hc
    obtain ⟨hc, c3⟩ := and2 hc
    obtain ⟨c1, c2⟩ := and2 hc
    have c2 := of_decide_eq_true c2
    have c3 := of_decide_eq_true c3
    have S := scopeB_ok c4
    have hpr : (progOf defs)[j]? = some D.fn := by unfold progOf; rw [List.getElem?_map, hj] <;> rfl
    have ed : D.d.dvs K = [] := by unfold He.DefD.dvs; rw [List.isEmpty_iff.mp c5] <;> rfl
    rw [ed] at F
    refine ⟨F.bindsN (Y.bind D hm), F.kp, F.bindsA (Y.bind D hm), F.ok S (len_of fun ds d rs hs => ?_) fun cdv A outer s H vs Q E hr hsp => ?_⟩
    · obtain ⟨fn, fl, e', g1, g2, _⟩ := callF_succ hs
      rw [hpr] at g1
      cases g1
      rw [g2, c2]
    · obtain ⟨ds, Fs, d, rs, r1, r2, r3, r4⟩ := hsp
      obtain ⟨fn, fl, e', g1, g2, g3, g4, g5⟩ := callF_succ r3
      rw [hpr] at g1
      cases g1
      have good : Good ⟨D.N, fnsOf defs, glos⟩ (callF (progOf defs) (glos.map (·.2)) k) k D.d.scope (cxOf CX0 P' w K mg base D.N D.d.qual D.d.scope (He.fAd K D.d.at_) cdv A outer s H E) := by
        refine ⟨rfl, S.nd, rfl, hr, rfl, Y.glos, fun j' x n hx => ?_, Y.blt⟩
        have hx : (fnsOf defs)[j']? = some (x, n) := hx
        unfold fnsOf at hx
        rw [List.getElem?_map] at hx
        cases q : defs[j']? with
        | none => rw [q] at hx; cases hx
        | some D' =>
          rw [q] at hx
          cases hx
          obtain ⟨m1, fd', F'⟩ := Y.fns D' (List.mem_of_getElem? q)
          obtain ⟨b1, b2, _, b3⟩ := ih j' D' fd' q F'
          exact ⟨_, fd', D'.ps, m1, b2, b1, rfl, b3⟩
      have dcx : DefCx (cxOf CX0 P' w K mg base D.N D.d.qual D.d.scope (He.fAd K D.d.at_) cdv A outer s H E) := ⟨rfl, passes_of rfl, S.kind⟩
      refine ⟨_, sndTs D.fn.body good dcx c1, ?_⟩
      have hlen : D.fn.n - D.fn.np = D.N.length - vs.length := by rw [c3, r1.length, g2]
      refine ⟨ds.map some ++ List.replicate (D.fn.n - D.fn.np) none, Fs, fl, e', ?_, r2, g3, ?_⟩
      · unfold L2.start
        rw [← hlen]
        exact r1.start _
      · have fin : ∀ v σ' H' Fd F', Rep K H' v d Fd → EnvRep K H' σ' e' F' → (Fd ++ F').Nodup → Stp H Fs H' (Fd ++ F') → Agr (asgTs D.fn.body) (L2.start D.N vs) σ' → Q v H' := fun v σ' H' Fd F' q1 q2 q3 q4 q5 => by
          have kp := q4.keeps r1.mut
          obtain ⟨Fr, m1, m2, m3⟩ := outs_ok (i := 0) r1 kp q2 (nd_right q3) (fun j hj u hu => by
            rw [q5.2 (j + 0) hj]
            unfold L2.start
            rw [Nat.add_zero, List.getElem?_append_left (by rw [List.length_map]; exact (List.getElem?_eq_some_iff.mp hu).1), List.getElem?_map, hu] <;> rfl) g5
          exact r4 v H' Fd Fr q1 m1 (nd_mk (nd_left q3) m2 fun a z y => nd_off q3 a z (m3 a y)) (stp_pick q4 fun a z => (List.mem_append.mp z).elim (fun z => List.mem_append_left _ z) fun z => List.mem_append_right _ (m3 a z))
        rcases g4 with ⟨rfl, rfl⟩ | rfl
        · exact fun σ' H' F' q2 q3 q4 q5 => fin .non σ' H' [] F' (Rep.imm .non) q2 q3 q4 q5
        · exact fin
/-- the law's promise -/
theorem law_sp {prog : List Fn} {G : List P} {k j : Nat} (h : ∀ ns : List Int, ns.length ≤ 63 → ∃ rs, callF prog G k j [.imm (.lst (ns.map P.int))] = some (.imm (.bl true), rs)) (H : Hp) (a : Addr) (ns : List Int) (hl : ns.length ≤ 63) (ho : Only H) (hs : SqL K H a (ns.map V.int)) :
    spD K (callF prog G k j) [.ref a] H (fun v _ => v = .bl true) fun _ _ _ => False := by
  obtain ⟨rs, hc⟩ := h ns hl
  have hf : FzL K H a (ns.map V.int) := by
    rcases hs with (hs | ⟨o, hs⟩) | hs
    · rcases ho a with e | ⟨o, xs, e⟩
      · rw [e] at hs; cases hs
      · rw [e] at hs; cases hs
    · exact .inl ⟨o, hs⟩
    · exact .inr hs
  refine ⟨_, [], _, rs, .cons (Rep.imm (.lst hf (PReps.ints ns))) .nil, List.nodup_nil, hc, fun v H' Fd Fr r _ _ _ => ?_⟩
  exact r.bl_of
end
end Sw
namespace Sw
namespace k43
def FUEL : Nat := 1000000000
/-- is_integer: 0 value -/
def b_is_integer : List T :=
  [.ret (.and [(.op (.isi [.int]) [(.nm 0)]), (.not (.op (.isi [.bool]) [(.nm 0)]))])]
def f_is_integer : Fn := ⟨1, 1, b_is_integer⟩
/-- rest_of: 0 divisor, 1 row, 2 r, 3 left, 4 k, 5 j, 6 one -/
def b_rest_of : List T :=
  [.asg (.nm 2) (.op .sub [(.op .len [(.nm 0)]), (.cst (.int 1))]), .asg (.nm 3) (.op .add [(.op .list [(.nm 1)]), (.op .mul [(.lst [(.cst (.int 0))]), (.op .max2 [(.cst (.int 0)), (.op .sub [(.nm 2), (.op .len [(.nm 1)])])])])]), .fors (.nm 4) .rng3 [(.op .sub [(.op .len [(.nm 3)]), (.cst (.int 1))]), (.op .sub [(.nm 2), (.cst (.int 1))]), (.op .neg [(.cst (.int 1))])] [.ifs (.op .eq [(.op .idx [(.nm 3), (.nm 4)]), (.cst (.int 1))]) [.fors (.tp [(.nm 5), (.nm 6)]) .enum [(.nm 0)] [.sto 3 (.op .add [(.op .sub [(.nm 4), (.nm 2)]), (.nm 5)]) (.op .xor [(.op .idx [(.nm 3), (.op .add [(.op .sub [(.nm 4), (.nm 2)]), (.nm 5)])]), (.nm 6)])]] []], .ret (.slc (.nm 3) none (some (.nm 2)))]
def f_rest_of : Fn := ⟨2, 7, b_rest_of⟩
/-- remainder: 0 divisor, 1 row -/
def b_remainder : List T :=
  [.ret (.op .tuple [(.call 1 [(.nm 0), (.nm 1)])])]
def f_remainder : Fn := ⟨2, 2, b_remainder⟩
/-- with_check: 0 divisor, 1 row, 2 r -/
def b_with_check : List T :=
  [.asg (.nm 2) (.op .sub [(.op .len [(.nm 0)]), (.cst (.int 1))]), .ret (.op .add [(.call 2 [(.nm 0), (.op .add [(.op .mul [(.tup [(.cst (.int 0))]), (.nm 2)]), (.op .tuple [(.nm 1)])])]), (.op .tuple [(.nm 1)])])]
def f_with_check : Fn := ⟨2, 3, b_with_check⟩
/-- moved: 0 divisor, 1 numbers, 2 last, 3 new, 4 one, 5 two -/
def b_moved : List T :=
  [.asg (.nm 2) (.op .idx [(.nm 1), (.op .neg [(.cst (.int 1))])]), .asg (.nm 3) (.op .add [(.lst [(.cst (.int 0))]), (.slc (.nm 1) none (some (.op .neg [(.cst (.int 1))])))]), .ret (.ife (.op .eq [(.nm 2), (.cst (.int 1))]) (.cmp [4, 5] (.tp [(.nm 4), (.nm 5)]) .zip [(.nm 3), (.nm 0)] [] (.frz (.op .xor [(.nm 4), (.nm 5)]))) (.nm 3))]
def f_moved : Fn := ⟨2, 6, b_moved⟩
/-- order_of: 0 divisor, 1 begin, 2 now, 3 many -/
def b_order_of : List T :=
  [.asg (.nm 1) (.call 1 [(.nm 0), (.tup [(.cst (.int 1))])]), .asg (.nm 2) (.call 4 [(.nm 0), (.nm 1)]), .asg (.nm 3) (.cst (.int 1)), .whl FUEL (.op .ne [(.nm 2), (.nm 1)]) [.asg (.nm 2) (.call 4 [(.nm 0), (.nm 2)]), .aug 3 .add (.cst (.int 1))], .ret (.nm 3)]
def f_order_of : Fn := ⟨1, 4, b_order_of⟩
/-- powers: 0 divisor, 1 n, 2 found, 3 now, 4 turn, 5 number, 6 one -/
def b_powers : List T :=
  [.asg (.nm 2) (.lst []), .asg (.nm 3) (.call 1 [(.nm 0), (.tup [(.cst (.int 1))])]), .fors (.nm 4) .rng1 [(.nm 1)] [.asg (.nm 5) (.cst (.int 0)), .fors (.nm 6) .seq [(.op .rev [(.nm 3)])] [.asg (.nm 5) (.op .add [(.op .mul [(.cst (.int 2)), (.nm 5)]), (.nm 6)])], .ex (.mut .append 2 [(.frz (.nm 5))]), .asg (.nm 3) (.call 4 [(.nm 0), (.nm 3)])], .ret (.nm 2)]
def f_powers : Fn := ⟨2, 7, b_powers⟩
/-- first_places: 0 table, 1 chosen, 2 left, 3 many, 4 place, 5 found -/
def b_first_places : List T :=
  [.ifs (.op .eq [(.nm 3), (.cst (.int 0))]) [.ret (.ife (.op .eq [(.nm 2), (.cst (.int 0))]) (.nm 1) (.cst .non))] [], .fors (.nm 4) .rng2 [(.op .add [(.op .idx [(.nm 1), (.op .neg [(.cst (.int 1))])]), (.cst (.int 1))]), (.op .add [(.op .sub [(.op .len [(.nm 0)]), (.nm 3)]), (.cst (.int 1))])] [.asg (.nm 5) (.call 7 [(.nm 0), (.op .add [(.nm 1), (.tup [(.frz (.nm 4))])]), (.op .xor [(.nm 2), (.op .idx [(.nm 0), (.nm 4)])]), (.op .sub [(.nm 3), (.cst (.int 1))])]), .ifs (.op .notN [(.nm 5)]) [.ret (.nm 5)] []], .ret (.cst .non)]
def f_first_places : Fn := ⟨4, 6, b_first_places⟩
/-- least_places: 0 divisor, 1 n, 2 table, 3 many, 4 found -/
def b_least_places : List T :=
  [.asg (.nm 2) (.call 6 [(.nm 0), (.nm 1)]), .fors (.nm 3) .rng2 [(.cst (.int 1)), (.op .add [(.nm 1), (.cst (.int 1))])] [.asg (.nm 4) (.call 7 [(.nm 2), (.tup [(.cst (.int 0))]), (.op .idx [(.nm 2), (.cst (.int 0))]), (.op .sub [(.nm 3), (.cst (.int 1))])]), .ifs (.op .notN [(.nm 4)]) [.ret (.nm 4)] []], .ret (.cst .non)]
def f_least_places : Fn := ⟨2, 5, b_least_places⟩
/-- divided_paper: 0 divisor, 1 n, 2 kind, 3 r, 4 most, 5 order, 6 places, 7 k, 8 one -/
def b_divided_paper : List T :=
  [.asg (.nm 3) (.op .sub [(.op .len [(.nm 0)]), (.cst (.int 1))]), .ifs (.op .eq [(.op .idx [(.nm 2), (.cst (.int 0))]), (.cst (.str [112, 97, 105, 114]))]) [.asg (.nm 5) (.call 5 [(.nm 0)]), .ret (.ife (.op .lt [(.nm 5), (.nm 1)]) (.tup [(.cst (.str [109, 105, 115, 115, 101, 100])), (.tup [(.cst (.int 0)), (.frz (.nm 5))])]) (.tup [(.cst (.str [99, 97, 117, 103, 104, 116]))]))] [], .ifs (.op .eq [(.op .idx [(.nm 2), (.cst (.int 0))]), (.cst (.str [111, 100, 100]))]) [.asg (.nm 6) (.op .tuple [(.cmp [7, 8] (.tp [(.nm 7), (.nm 8)]) .enum [(.nm 0)] [(.op .eq [(.nm 8), (.cst (.int 1))])] (.frz (.nm 7)))]), .ret (.ife (.and [(.op .eq [(.op .mod [(.op .len [(.nm 6)]), (.cst (.int 2))]), (.cst (.int 1))]), (.op .lt [(.nm 3), (.nm 1)])]) (.tup [(.cst (.str [109, 105, 115, 115, 101, 100])), (.frz (.nm 6))]) (.tup [(.cst (.str [99, 97, 117, 103, 104, 116]))]))] [], .asg (.nm 4) (.op .min2 [(.op .idx [(.nm 2), (.cst (.int 1))]), (.nm 1)]), .ifs (.op .le [(.nm 4), (.nm 3)]) [.ret (.tup [(.cst (.str [99, 97, 117, 103, 104, 116]))])] [], .ret (.tup [(.cst (.str [109, 105, 115, 115, 101, 100])), (.frz (.call 8 [(.nm 0), (.nm 4)]))])]
def f_divided_paper : Fn := ⟨3, 9, b_divided_paper⟩
/-- is_kind: 0 places, 1 kind -/
def b_is_kind : List T :=
  [.ifs (.op .eq [(.op .idx [(.nm 1), (.cst (.int 0))]), (.cst (.str [112, 97, 105, 114]))]) [.ret (.op .eq [(.op .len [(.nm 0)]), (.cst (.int 2))])] [], .ifs (.op .eq [(.op .idx [(.nm 1), (.cst (.int 0))]), (.cst (.str [111, 100, 100]))]) [.ret (.op .eq [(.op .mod [(.op .len [(.nm 0)]), (.cst (.int 2))]), (.cst (.int 1))])] [], .ret (.op .le [(.op .add [(.op .sub [(.op .idx [(.nm 0), (.op .neg [(.cst (.int 1))])]), (.op .idx [(.nm 0), (.cst (.int 0))])]), (.cst (.int 1))]), (.op .idx [(.nm 1), (.cst (.int 1))])])]
def f_is_kind : Fn := ⟨2, 2, b_is_kind⟩
/-- judge_divided: 0 divisor, 1 n, 2 kind, 3 value, 4 places, 5 total, 6 table, 7 place, 8 one, 9 two -/
def b_judge_divided : List T :=
  [.ifs (.or [(.not (.op (.isi [.tuple]) [(.nm 3)])), (.op .notin [(.op .len [(.nm 3)]), (.tup [(.cst (.int 1)), (.cst (.int 2))])]), (.not (.op (.isi [.str]) [(.op .idx [(.nm 3), (.cst (.int 0))])]))]) [.ret (.cst (.bl false))] [], .ifs (.op .eq [(.op .idx [(.nm 3), (.cst (.int 0))]), (.cst (.str [99, 97, 117, 103, 104, 116]))]) [.ret (.and [(.op .eq [(.op .len [(.nm 3)]), (.cst (.int 1))]), (.op .eq [(.call 9 [(.nm 0), (.nm 1), (.nm 2)]), (.nm 3)])])] [], .ifs (.or [(.op .ne [(.op .idx [(.nm 3), (.cst (.int 0))]), (.cst (.str [109, 105, 115, 115, 101, 100]))]), (.op .ne [(.op .len [(.nm 3)]), (.cst (.int 2))]), (.not (.op (.isi [.tuple]) [(.op .idx [(.nm 3), (.cst (.int 1))])])), (.op .eq [(.op .len [(.op .idx [(.nm 3), (.cst (.int 1))])]), (.cst (.int 0))])]) [.ret (.cst (.bl false))] [], .asg (.nm 4) (.op .idx [(.nm 3), (.cst (.int 1))]), .ifs (.not (.op .all [(.cmp [8] (.nm 8) .seq [(.nm 4)] [] (.and [(.call 0 [(.nm 8)]), (.chain .le .lt (.cst (.int 0)) (.nm 8) (.nm 1))]))])) [.ret (.cst (.bl false))] [], .ifs (.or [(.not (.op .all [(.cmp [8, 9] (.tp [(.nm 8), (.nm 9)]) .zip [(.nm 4), (.slc (.nm 4) (some (.cst (.int 1))) none)] [] (.op .lt [(.nm 8), (.nm 9)]))])), (.not (.call 10 [(.nm 4), (.nm 2)]))]) [.ret (.cst (.bl false))] [], .asg (.nm 5) (.cst (.int 0)), .asg (.nm 6) (.call 6 [(.nm 0), (.nm 1)]), .fors (.nm 7) .seq [(.nm 4)] [.asg (.nm 5) (.op .xor [(.nm 5), (.op .idx [(.nm 6), (.nm 7)])])], .ret (.op .eq [(.nm 5), (.cst (.int 0))])]
def f_judge_divided : Fn := ⟨4, 10, b_judge_divided⟩
/-- least_missed: 0 divisor, 1 n, 2 found -/
def b_least_missed : List T :=
  [.asg (.nm 2) (.call 8 [(.nm 0), (.nm 1)]), .ret (.tup [(.op .len [(.nm 2)]), (.frz (.nm 2))])]
def f_least_missed : Fn := ⟨2, 3, b_least_missed⟩
/-- _law_start: 0 script, 1 cell -/
def b__law_start : List T :=
  [.ret (.lst [(.frz (.cmp [1] (.nm 1) .seq [(.slc (.nm 0) none (some (.cst (.int 63))))] [] (.op .int [(.nm 1)]))), (.cst (.int 0)), (.cst (.int 0)), (.cst (.int 0)), (.cst (.int 20))])]
def f__law_start : Fn := ⟨1, 2, b__law_start⟩
/-- _law_fill: 0 c, 1 number -/
def b__law_fill : List T :=
  [.sto 0 (.cst (.int 3)) (.op .add [(.op .idx [(.nm 0), (.cst (.int 3))]), (.cst (.int 1))]), .asg (.nm 1) (.op .add [(.op .mul [(.op .idx [(.nm 0), (.cst (.int 3))]), (.cst (.int 69621))]), (.cst (.int 12345))]), .ifs (.op .lt [(.op .idx [(.nm 0), (.cst (.int 1))]), (.op .len [(.op .idx [(.nm 0), (.cst (.int 0))])])]) [.asg (.nm 1) (.op .idx [(.op .idx [(.nm 0), (.cst (.int 0))]), (.op .idx [(.nm 0), (.cst (.int 1))])]), .sto 0 (.cst (.int 1)) (.op .add [(.op .idx [(.nm 0), (.cst (.int 1))]), (.cst (.int 1))]), .ifs (.op .lt [(.nm 1), (.cst (.int 0))]) [.asg (.nm 1) (.op .sub [(.op .sub [(.cst (.int 0)), (.cst (.int 1))]), (.nm 1)])] [], .ifs (.op .ge [(.nm 1), (.op .pow [(.cst (.int 10)), (.cst (.int 18))])]) [.ret (.nm 1)] []] [], .ifs (.and [(.op .idx [(.nm 0), (.cst (.int 0))]), (.op .ge [(.op .idx [(.nm 0), (.cst (.int 1))]), (.op .len [(.op .idx [(.nm 0), (.cst (.int 0))])])])]) [.asg (.nm 1) (.op .add [(.nm 1), (.op .mod [(.op .int [(.op .idx [(.op .idx [(.nm 0), (.cst (.int 0))]), (.op .neg [(.cst (.int 1))])])]), (.cst (.int 1000003))])])] [], .asg (.nm 1) (.op .mod [(.op .int [(.op .add [(.op .mul [(.nm 1), (.cst (.int 48271))]), (.op .mul [(.op .idx [(.nm 0), (.cst (.int 3))]), (.cst (.int 69621))])])]), (.cst (.int 2147483647))]), .ret (.op .add [(.op .fdiv [(.op .int [(.op .add [(.op .add [(.op .mul [(.nm 1), (.nm 1)]), (.op .mul [(.op .idx [(.nm 0), (.cst (.int 3))]), (.cst (.int 7919))])]), (.cst (.int 11))])]), (.cst (.int 64))]), (.cst (.int 36028797018963968))])]
def f__law_fill : Fn := ⟨1, 2, b__law_fill⟩
/-- _law_take: 0 c, 1 many, 2 digit -/
def b__law_take : List T :=
  [.ifs (.op .lt [(.op .idx [(.nm 0), (.cst (.int 2))]), (.nm 1)]) [.sto 0 (.cst (.int 2)) (.frz (.call 14 [(.nm 0)]))] [], .asg (.nm 2) (.op .mod [(.op .int [(.op .idx [(.nm 0), (.cst (.int 2))])]), (.nm 1)]), .sto 0 (.cst (.int 2)) (.op .fdiv [(.op .idx [(.nm 0), (.cst (.int 2))]), (.nm 1)]), .ret (.nm 2)]
def f__law_take : Fn := ⟨2, 3, b__law_take⟩
/-- _law_is_int: 0 value -/
def b__law_is_int : List T :=
  [.ret (.and [(.op (.isi [.int]) [(.nm 0)]), (.not (.op (.isi [.bool]) [(.nm 0)]))])]
def f__law_is_int : Fn := ⟨1, 1, b__law_is_int⟩
/-- _law_alike: 0 value, 1 due, 2 k -/
def b__law_alike : List T :=
  [.ifs (.op (.isi [.tuple]) [(.nm 1)]) [.ret (.and [(.op (.isi [.tuple]) [(.nm 0)]), (.op .eq [(.op .len [(.nm 0)]), (.op .len [(.nm 1)])]), (.op .all [(.cmp [2] (.nm 2) .rng1 [(.op .len [(.nm 1)])] [] (.frz (.call 17 [(.op .idx [(.nm 0), (.nm 2)]), (.op .idx [(.nm 1), (.nm 2)])])))])])] [], .ifs (.op .isN [(.nm 1)]) [.ret (.op .isN [(.nm 0)])] [], .ifs (.or [(.op (.isi [.bool]) [(.nm 0)]), (.op .ne [(.op (.isi [.str]) [(.nm 0)]), (.op (.isi [.str]) [(.nm 1)])])]) [.ret (.cst (.bl false))] [], .ret (.and [(.op (.isi [.int, .str]) [(.nm 0)]), (.op .eq [(.nm 0), (.nm 1)])])]
def f__law_alike : Fn := ⟨2, 3, b__law_alike⟩
/-- _law_words: 0 letters, 1 n, 2 found, 3 turn, 4 more, 5 word, 6 letter -/
def b__law_words : List T :=
  [.asg (.nm 2) (.lst [(.cst (.str []))]), .fors (.nm 3) .rng1 [(.nm 1)] [.asg (.nm 4) (.lst []), .fors (.nm 5) .seq [(.nm 2)] [.asg (.nm 4) (.op .add [(.nm 4), (.cmp [6] (.nm 6) .seq [(.nm 0)] [] (.frz (.op .add [(.nm 5), (.nm 6)])))])], .asg (.nm 2) (.frz (.nm 4))], .ret (.nm 2)]
def f__law_words : Fn := ⟨2, 7, b__law_words⟩
/-- _law_word: 0 c, 1 letters, 2 most, 3 k -/
def b__law_word : List T :=
  [.ret (.mth .join (.cst (.str [])) [(.cmp [3] (.nm 3) .rng1 [(.call 15 [(.nm 0), (.op .add [(.nm 2), (.cst (.int 1))])])] [] (.op .idx [(.nm 1), (.call 15 [(.nm 0), (.op .len [(.nm 1)])])]))])]
def f__law_word : Fn := ⟨3, 4, b__law_word⟩
/-- _law_spoilt: 0 c, 1 value, 2 k -/
def b__law_spoilt : List T :=
  [.ifs (.op (.isi [.str]) [(.nm 1)]) [.ret (.op .idx [(.lst [(.cst (.str [])), (.cst (.str [97])), (.cst (.str [98])), (.cst (.str [97, 98])), (.op .add [(.nm 1), (.cst (.str [97]))]), (.frz (.slc (.nm 1) (some (.cst (.int 1))) none)), (.cst (.str [98, 97, 99, 107])), (.cst (.str [108, 101, 97, 115, 116])), (.cst (.str [99, 97, 117, 103, 104, 116])), (.cst (.str [109, 105, 115, 115, 101, 100]))]), (.call 15 [(.nm 0), (.cst (.int 10))])])] [], .ifs (.not (.op (.isi [.tuple]) [(.nm 1)])) [.ret (.op .idx [(.lst [(.cst (.int 0)), (.cst (.int 1)), (.cst (.int 2)), (.op .neg [(.cst (.int 1))]), (.cst (.bl true)), (.cst .non), (.cst (.int 3))]), (.call 15 [(.nm 0), (.cst (.int 7))])])] [], .ifs (.or [(.not (.nm 1)), (.op .eq [(.call 15 [(.nm 0), (.cst (.int 5))]), (.cst (.int 0))])]) [.ret (.op .idx [(.lst [(.frz (.slc (.nm 1) (some (.cst (.int 1))) none)), (.frz (.slc (.nm 1) none (some (.op .neg [(.cst (.int 1))])))), (.frz (.op .add [(.nm 1), (.slc (.nm 1) (some (.op .neg [(.cst (.int 1))])) none)])), (.frz (.op .rev [(.nm 1)])), (.frz (.op .list [(.nm 1)])), (.op .add [(.nm 1), (.tup [(.tup [(.cst (.int 0)), (.cst (.int 0))])])]), (.tup []), (.tup [(.cst (.int 1)), (.cst (.int 0))])]), (.call 15 [(.nm 0), (.cst (.int 8))])])] [], .asg (.nm 2) (.call 15 [(.nm 0), (.op .len [(.nm 1)])]), .ret (.op .add [(.op .add [(.slc (.nm 1) none (some (.nm 2))), (.tup [(.frz (.call 20 [(.nm 0), (.op .idx [(.nm 1), (.nm 2)])]))])]), (.slc (.nm 1) (some (.op .add [(.nm 2), (.cst (.int 1))])) none)])]
def f__law_spoilt : Fn := ⟨2, 3, b__law_spoilt⟩
/-- _law_bent: 0 c, 1 value, 2 turn, 3 k -/
def b__law_bent : List T :=
  [.fors (.nm 3) .rng1 [(.op .mul [(.op .int [(.op .gt [(.nm 2), (.cst (.int 0))])]), (.op .add [(.cst (.int 1)), (.call 15 [(.nm 0), (.cst (.int 2))])])])] [.asg (.nm 1) (.call 20 [(.nm 0), (.nm 1)])], .ret (.nm 1)]
def f__law_bent : Fn := ⟨3, 4, b__law_bent⟩
/-- _law_divisor_of: 0 c, 1 middle, 2 k -/
def b__law_divisor_of : List T :=
  [.asg (.nm 1) (.op .tuple [(.cmp [2] (.nm 2) .rng1 [(.call 15 [(.nm 0), (.cst (.int 6))])] [] (.frz (.call 15 [(.nm 0), (.cst (.int 2))])))]), .ret (.op .add [(.op .add [(.tup [(.cst (.int 1))]), (.nm 1)]), (.tup [(.cst (.int 1))])])]
def f__law_divisor_of : Fn := ⟨1, 3, b__law_divisor_of⟩
/-- _law_rest: 0 divisor, 1 row, 2 k, 3 left, 4 r, 5 e -/
def b__law_rest : List T :=
  [.par [3, 4] [(.op .list [(.nm 1)]), (.op .sub [(.op .len [(.nm 0)]), (.cst (.int 1))])], .fors (.nm 2) .rng3 [(.op .sub [(.op .len [(.nm 3)]), (.cst (.int 1))]), (.op .sub [(.nm 4), (.cst (.int 1))]), (.op .neg [(.cst (.int 1))])] [.ifs (.op .eq [(.op .idx [(.nm 3), (.nm 2)]), (.cst (.int 1))]) [.fors (.nm 5) .rng1 [(.op .add [(.nm 4), (.cst (.int 1))])] [.sto 3 (.op .add [(.op .sub [(.nm 2), (.nm 4)]), (.nm 5)]) (.op .mod [(.op .add [(.op .idx [(.nm 3), (.op .add [(.op .sub [(.nm 2), (.nm 4)]), (.nm 5)])]), (.op .idx [(.nm 0), (.nm 5)])]), (.cst (.int 2))])]] []], .ret (.op .add [(.op .tuple [(.slc (.nm 3) none (some (.nm 4)))]), (.op .mul [(.tup [(.cst (.int 0))]), (.op .sub [(.nm 4), (.op .len [(.nm 3)])])])])]
def f__law_rest : Fn := ⟨2, 6, b__law_rest⟩
/-- _law_row: 0 places, 1 n, 2 k -/
def b__law_row : List T :=
  [.ret (.op .tuple [(.cmp [2] (.nm 2) .rng1 [(.nm 1)] [] (.op .int [(.op .isin [(.nm 2), (.nm 0)])]))])]
def f__law_row : Fn := ⟨2, 3, b__law_row⟩
/-- _law_subsets: 0 n, 1 most, 2 size, 3 found, 4 layer, 5 more, 6 one, 7 k -/
def b__law_subsets : List T :=
  [.par [3, 4] [(.lst []), (.lst [(.tup [])])], .fors (.nm 2) .rng1 [(.nm 1)] [.asg (.nm 5) (.lst []), .fors (.nm 6) .seq [(.nm 4)] [.asg (.nm 5) (.op .add [(.nm 5), (.cmp [7] (.nm 7) .rng2 [(.ife (.nm 6) (.op .add [(.op .idx [(.nm 6), (.op .neg [(.cst (.int 1))])]), (.cst (.int 1))]) (.cst (.int 0))), (.nm 0)] [] (.op .add [(.nm 6), (.tup [(.frz (.nm 7))])]))])], .asg (.nm 4) (.mv 5), .asg (.nm 3) (.op .add [(.nm 3), (.nm 4)])], .ret (.nm 3)]
def f__law_subsets : Fn := ⟨2, 8, b__law_subsets⟩
/-- _law_missed: 0 divisor, 1 n, 2 kind, 3 found, 4 places -/
def b__law_missed : List T :=
  [.asg (.nm 3) (.lst []), .fors (.nm 4) .seq [(.call 25 [(.nm 1), (.ife (.op .eq [(.op .idx [(.nm 2), (.cst (.int 0))]), (.cst (.str [112, 97, 105, 114]))]) (.cst (.int 2)) (.nm 1))])] [.ifs (.and [(.call 27 [(.nm 4), (.nm 2)]), (.not (.op .any [(.call 23 [(.nm 0), (.call 24 [(.nm 4), (.nm 1)])])]))]) [.ex (.mut .append 3 [(.frz (.nm 4))])] []], .ret (.nm 3)]
def f__law_missed : Fn := ⟨3, 5, b__law_missed⟩
/-- _law_fits: 0 places, 1 kind -/
def b__law_fits : List T :=
  [.ifs (.op .eq [(.op .idx [(.nm 1), (.cst (.int 0))]), (.cst (.str [112, 97, 105, 114]))]) [.ret (.op .eq [(.op .len [(.nm 0)]), (.cst (.int 2))])] [], .ret (.ife (.op .eq [(.op .idx [(.nm 1), (.cst (.int 0))]), (.cst (.str [111, 100, 100]))]) (.op .eq [(.op .mod [(.op .len [(.nm 0)]), (.cst (.int 2))]), (.cst (.int 1))]) (.op .lt [(.op .sub [(.op .idx [(.nm 0), (.op .neg [(.cst (.int 1))])]), (.op .idx [(.nm 0), (.cst (.int 0))])]), (.op .idx [(.nm 1), (.cst (.int 1))])]))]
def f__law_fits : Fn := ⟨2, 2, b__law_fits⟩
/-- _law_is_paper: 0 divisor, 1 n, 2 kind, 3 missed, 4 value, 5 one -/
def b__law_is_paper : List T :=
  [.ifs (.or [(.not (.op (.isi [.tuple]) [(.nm 4)])), (.not (.nm 4)), (.not (.op (.isi [.str]) [(.op .idx [(.nm 4), (.cst (.int 0))])]))]) [.ret (.cst (.bl false))] [], .ifs (.op .eq [(.op .idx [(.nm 4), (.cst (.int 0))]), (.cst (.str [99, 97, 117, 103, 104, 116]))]) [.ret (.and [(.op .eq [(.op .len [(.nm 4)]), (.cst (.int 1))]), (.not (.nm 3))])] [], .ifs (.or [(.op .ne [(.op .idx [(.nm 4), (.cst (.int 0))]), (.cst (.str [109, 105, 115, 115, 101, 100]))]), (.op .ne [(.op .len [(.nm 4)]), (.cst (.int 2))]), (.not (.op (.isi [.tuple]) [(.op .idx [(.nm 4), (.cst (.int 1))])]))]) [.ret (.cst (.bl false))] [], .ret (.and [(.op .all [(.cmp [5] (.nm 5) .seq [(.op .idx [(.nm 4), (.cst (.int 1))])] [] (.frz (.call 16 [(.nm 5)])))]), (.op .isin [(.op .idx [(.nm 4), (.cst (.int 1))]), (.nm 3)])])]
def f__law_is_paper : Fn := ⟨5, 6, b__law_is_paper⟩
/-- law: 0 script, 1 c, 2 divisor, 3 r, 4 row, 5 right, 6 order, 7 n, 8 kind, 9 most, 10 first, 11 missed, 12 paper, 13 turn, 14 bent, 15 told, 16 k, 17 t, 18 places -/
def b_law : List T :=
  [.asg (.nm 1) (.call 13 [(.nm 0)]), .asg (.nm 2) (.call 22 [(.nm 1)]), .asg (.nm 3) (.op .sub [(.op .len [(.nm 2)]), (.cst (.int 1))]), .asg (.nm 4) (.op .tuple [(.cmp [16] (.nm 16) .rng1 [(.call 15 [(.nm 1), (.cst (.int 20))])] [] (.frz (.call 15 [(.nm 1), (.cst (.int 2))])))]), .ifs (.not (.call 17 [(.call 2 [(.nm 2), (.nm 4)]), (.call 23 [(.nm 2), (.nm 4)])])) [.ret (.cst (.bl false))] [], .asg (.nm 5) (.call 3 [(.nm 2), (.nm 4)]), .ifs (.or [(.op .ne [(.slc (.nm 5) (some (.nm 3)) none), (.nm 4)]), (.op .ne [(.op .len [(.nm 5)]), (.op .add [(.nm 3), (.op .len [(.nm 4)])])]), (.op .any [(.call 23 [(.nm 2), (.nm 5)])])]) [.ret (.cst (.bl false))] [], .asg (.nm 6) (.op .idx [(.cmp [17] (.nm 17) .rng2 [(.cst (.int 1)), (.cst (.int 65))] [(.not (.op .any [(.call 23 [(.nm 2), (.call 24 [(.tup [(.cst (.int 0)), (.frz (.nm 17))]), (.op .add [(.nm 17), (.cst (.int 1))])])])]))] (.frz (.nm 17))), (.cst (.int 0))]), .ifs (.op .ne [(.call 5 [(.nm 2)]), (.nm 6)]) [.ret (.cst (.bl false))] [], .asg (.nm 7) (.op .add [(.cst (.int 2)), (.call 15 [(.nm 1), (.cst (.int 8))])]), .fors (.nm 8) .seq [(.lst [(.tup [(.cst (.str [112, 97, 105, 114]))]), (.tup [(.cst (.str [111, 100, 100]))]), (.tup [(.cst (.str [98, 117, 114, 115, 116])), (.op .add [(.cst (.int 1)), (.call 15 [(.nm 1), (.cst (.int 9))])])])])] [.asg (.nm 11) (.call 26 [(.nm 2), (.nm 7), (.nm 8)]), .asg (.nm 12) (.call 9 [(.nm 2), (.nm 7), (.nm 8)]), .ifs (.not (.call 28 [(.nm 2), (.nm 7), (.nm 8), (.nm 11), (.nm 12)])) [.ret (.cst (.bl false))] [], .ifs (.and [(.op .ne [(.op .idx [(.nm 8), (.cst (.int 0))]), (.cst (.str [111, 100, 100]))]), (.nm 11), (.op .ne [(.nm 12), (.tup [(.cst (.str [109, 105, 115, 115, 101, 100])), (.op .idx [(.nm 11), (.cst (.int 0))])])])]) [.ret (.cst (.bl false))] [], .fors (.nm 13) .rng1 [(.cst (.int 5))] [.asg (.nm 14) (.call 21 [(.nm 1), (.nm 12), (.nm 13)]), .ifs (.and [(.nm 11), (.op .eq [(.call 15 [(.nm 1), (.cst (.int 3))]), (.cst (.int 0))])]) [.asg (.nm 14) (.tup [(.cst (.str [109, 105, 115, 115, 101, 100])), (.op .idx [(.nm 11), (.call 15 [(.nm 1), (.op .len [(.nm 11)])])])])] [], .asg (.nm 15) (.call 11 [(.nm 2), (.nm 7), (.nm 8), (.nm 14)]), .ifs (.or [(.not (.op (.isi [.bool]) [(.nm 15)])), (.op .ne [(.nm 15), (.call 28 [(.nm 2), (.nm 7), (.nm 8), (.nm 11), (.nm 14)])])]) [.ret (.cst (.bl false))] []]], .asg (.nm 9) (.op .max2 [(.nm 7), (.op .add [(.nm 3), (.cst (.int 1))])]), .asg (.nm 10) (.op .idx [(.cmp [18] (.nm 18) .seq [(.call 25 [(.nm 9), (.nm 9)])] [(.not (.op .any [(.call 23 [(.nm 2), (.call 24 [(.nm 18), (.nm 9)])])]))] (.frz (.nm 18))), (.cst (.int 0))]), .ret (.call 17 [(.call 12 [(.nm 2), (.nm 9)]), (.tup [(.op .len [(.nm 10)]), (.frz (.nm 10))])])]
def f_law : Fn := ⟨1, 19, b_law⟩
def prog : List Fn := [f_is_integer, f_rest_of, f_remainder, f_with_check, f_moved, f_order_of, f_powers, f_first_places, f_least_places, f_divided_paper, f_is_kind, f_judge_divided, f_least_missed, f__law_start, f__law_fill, f__law_take, f__law_is_int, f__law_alike, f__law_words, f__law_word, f__law_spoilt, f__law_bent, f__law_divisor_of, f__law_rest, f__law_row, f__law_subsets, f__law_missed, f__law_fits, f__law_is_paper, f_law]
def glos : List (PySem.Str × P) := []
def G : List P := glos.map (·.2)
end k43
end Sw
set_option maxHeartbeats 0
namespace Sw
namespace k43
open PySem PySem.Spec PyProof.Rows L2
def top (i : Nat) : Stmt := PySem.Challenge.pw_signworth_k43_divided_rows.main.body.getD i (.Pass ⟨0, 0, 0, 0⟩)
def d_is_integer : He.DefD := ⟨("is_integer", none), "is_integer", "is_integer", defArgs (top 1), defBody (top 1), defScope (top 1), [], []⟩
def d_rest_of : He.DefD := ⟨("rest_of", none), "rest_of", "rest_of", defArgs (top 3), defBody (top 3), defScope (top 3), [], []⟩
def d_remainder : He.DefD := ⟨("remainder", none), "remainder", "remainder", defArgs (top 4), defBody (top 4), defScope (top 4), [], []⟩
def d_with_check : He.DefD := ⟨("with_check", none), "with_check", "with_check", defArgs (top 5), defBody (top 5), defScope (top 5), [], []⟩
def d_moved : He.DefD := ⟨("moved", none), "moved", "moved", defArgs (top 6), defBody (top 6), defScope (top 6), [], []⟩
def d_order_of : He.DefD := ⟨("order_of", none), "order_of", "order_of", defArgs (top 7), defBody (top 7), defScope (top 7), [], []⟩
def d_powers : He.DefD := ⟨("powers", none), "powers", "powers", defArgs (top 8), defBody (top 8), defScope (top 8), [], []⟩
def d_first_places : He.DefD := ⟨("first_places", none), "first_places", "first_places", defArgs (top 9), defBody (top 9), defScope (top 9), [], []⟩
def d_least_places : He.DefD := ⟨("least_places", none), "least_places", "least_places", defArgs (top 10), defBody (top 10), defScope (top 10), [], []⟩
def d_divided_paper : He.DefD := ⟨("divided_paper", none), "divided_paper", "divided_paper", defArgs (top 11), defBody (top 11), defScope (top 11), [], []⟩
def d_is_kind : He.DefD := ⟨("is_kind", none), "is_kind", "is_kind", defArgs (top 12), defBody (top 12), defScope (top 12), [], []⟩
def d_judge_divided : He.DefD := ⟨("judge_divided", none), "judge_divided", "judge_divided", defArgs (top 13), defBody (top 13), defScope (top 13), [], []⟩
def d_least_missed : He.DefD := ⟨("least_missed", none), "least_missed", "least_missed", defArgs (top 14), defBody (top 14), defScope (top 14), [], []⟩
def d__law_start : He.DefD := ⟨("_law_start", none), "_law_start", "_law_start", defArgs (top 16), defBody (top 16), defScope (top 16), [], []⟩
def d__law_fill : He.DefD := ⟨("_law_fill", none), "_law_fill", "_law_fill", defArgs (top 17), defBody (top 17), defScope (top 17), [], []⟩
def d__law_take : He.DefD := ⟨("_law_take", none), "_law_take", "_law_take", defArgs (top 18), defBody (top 18), defScope (top 18), [], []⟩
def d__law_is_int : He.DefD := ⟨("_law_is_int", none), "_law_is_int", "_law_is_int", defArgs (top 19), defBody (top 19), defScope (top 19), [], []⟩
def d__law_alike : He.DefD := ⟨("_law_alike", none), "_law_alike", "_law_alike", defArgs (top 20), defBody (top 20), defScope (top 20), [], []⟩
def d__law_words : He.DefD := ⟨("_law_words", none), "_law_words", "_law_words", defArgs (top 21), defBody (top 21), defScope (top 21), [], []⟩
def d__law_word : He.DefD := ⟨("_law_word", none), "_law_word", "_law_word", defArgs (top 22), defBody (top 22), defScope (top 22), [], []⟩
def d__law_spoilt : He.DefD := ⟨("_law_spoilt", none), "_law_spoilt", "_law_spoilt", defArgs (top 23), defBody (top 23), defScope (top 23), [], []⟩
def d__law_bent : He.DefD := ⟨("_law_bent", none), "_law_bent", "_law_bent", defArgs (top 24), defBody (top 24), defScope (top 24), [], []⟩
def d__law_divisor_of : He.DefD := ⟨("_law_divisor_of", none), "_law_divisor_of", "_law_divisor_of", defArgs (top 25), defBody (top 25), defScope (top 25), [], []⟩
def d__law_rest : He.DefD := ⟨("_law_rest", none), "_law_rest", "_law_rest", defArgs (top 26), defBody (top 26), defScope (top 26), [], []⟩
def d__law_row : He.DefD := ⟨("_law_row", none), "_law_row", "_law_row", defArgs (top 27), defBody (top 27), defScope (top 27), [], []⟩
def d__law_subsets : He.DefD := ⟨("_law_subsets", none), "_law_subsets", "_law_subsets", defArgs (top 28), defBody (top 28), defScope (top 28), [], []⟩
def d__law_missed : He.DefD := ⟨("_law_missed", none), "_law_missed", "_law_missed", defArgs (top 29), defBody (top 29), defScope (top 29), [], []⟩
def d__law_fits : He.DefD := ⟨("_law_fits", none), "_law_fits", "_law_fits", defArgs (top 30), defBody (top 30), defScope (top 30), [], []⟩
def d__law_is_paper : He.DefD := ⟨("_law_is_paper", none), "_law_is_paper", "_law_is_paper", defArgs (top 31), defBody (top 31), defScope (top 31), [], []⟩
def d_law : He.DefD := ⟨("law", none), "law", "law", defArgs (top 32), defBody (top 32), defScope (top 32), [], []⟩
def fn : List He.DefD := [d_is_integer, d_rest_of, d_remainder, d_with_check, d_moved, d_order_of, d_powers, d_first_places, d_least_places, d_divided_paper, d_is_kind, d_judge_divided, d_least_missed, d__law_start, d__law_fill, d__law_take, d__law_is_int, d__law_alike, d__law_words, d__law_word, d__law_spoilt, d__law_bent, d__law_divisor_of, d__law_rest, d__law_row, d__law_subsets, d__law_missed, d__law_fits, d__law_is_paper, d_law]
def fa : List He.Fa := [.glo "is_integer", .glo "rest_of", .glo "remainder", .glo "with_check", .glo "moved", .glo "order_of", .glo "powers", .glo "first_places", .glo "least_places", .glo "divided_paper", .glo "is_kind", .glo "judge_divided", .glo "least_missed", .glo "_law_start", .glo "_law_fill", .glo "_law_take", .glo "_law_is_int", .glo "_law_alike", .glo "_law_words", .glo "_law_word", .glo "_law_spoilt", .glo "_law_bent", .glo "_law_divisor_of", .glo "_law_rest", .glo "_law_row", .glo "_law_subsets", .glo "_law_missed", .glo "_law_fits", .glo "_law_is_paper", .glo "law", .free "len", .free "list", .free "tuple", .free "min", .free "max", .free "int", .free "abs", .free "sum", .free "all", .free "any", .free "isinstance", .free "bool", .free "str", .free "range", .free "enumerate", .free "zip"]
def loose : List Str := (["is_integer", "rest_of", "remainder", "with_check", "moved", "order_of", "powers", "first_places", "least_places", "divided_paper", "is_kind", "judge_divided", "least_missed", "_law_start", "_law_fill", "_law_take", "_law_is_int", "_law_alike", "_law_words", "_law_word", "_law_spoilt", "_law_bent", "_law_divisor_of", "_law_rest", "_law_row", "_law_subsets", "_law_missed", "_law_fits", "_law_is_paper"] : List Str)
def defs : List DS := [⟨d_is_integer, (["value"] : List Str), (["value"] : List Str), f_is_integer⟩, ⟨d_rest_of, (["divisor", "row"] : List Str), (["divisor", "row", "r", "left", "k", "j", "one"] : List Str), f_rest_of⟩, ⟨d_remainder, (["divisor", "row"] : List Str), (["divisor", "row"] : List Str), f_remainder⟩, ⟨d_with_check, (["divisor", "row"] : List Str), (["divisor", "row", "r"] : List Str), f_with_check⟩, ⟨d_moved, (["divisor", "numbers"] : List Str), (["divisor", "numbers", "last", "new", "one", "two"] : List Str), f_moved⟩, ⟨d_order_of, (["divisor"] : List Str), (["divisor", "begin", "now", "many"] : List Str), f_order_of⟩, ⟨d_powers, (["divisor", "n"] : List Str), (["divisor", "n", "found", "now", "turn", "number", "one"] : List Str), f_powers⟩, ⟨d_first_places, (["table", "chosen", "left", "many"] : List Str), (["table", "chosen", "left", "many", "place", "found"] : List Str), f_first_places⟩, ⟨d_least_places, (["divisor", "n"] : List Str), (["divisor", "n", "table", "many", "found"] : List Str), f_least_places⟩, ⟨d_divided_paper, (["divisor", "n", "kind"] : List Str), (["divisor", "n", "kind", "r", "most", "order", "places", "k", "one"] : List Str), f_divided_paper⟩, ⟨d_is_kind, (["places", "kind"] : List Str), (["places", "kind"] : List Str), f_is_kind⟩, ⟨d_judge_divided, (["divisor", "n", "kind", "value"] : List Str), (["divisor", "n", "kind", "value", "places", "total", "table", "place", "one", "two"] : List Str), f_judge_divided⟩, ⟨d_least_missed, (["divisor", "n"] : List Str), (["divisor", "n", "found"] : List Str), f_least_missed⟩, ⟨d__law_start, (["script"] : List Str), (["script", "cell"] : List Str), f__law_start⟩, ⟨d__law_fill, (["c"] : List Str), (["c", "number"] : List Str), f__law_fill⟩, ⟨d__law_take, (["c", "many"] : List Str), (["c", "many", "digit"] : List Str), f__law_take⟩, ⟨d__law_is_int, (["value"] : List Str), (["value"] : List Str), f__law_is_int⟩, ⟨d__law_alike, (["value", "due"] : List Str), (["value", "due", "k"] : List Str), f__law_alike⟩, ⟨d__law_words, (["letters", "n"] : List Str), (["letters", "n", "found", "turn", "more", "word", "letter"] : List Str), f__law_words⟩, ⟨d__law_word, (["c", "letters", "most"] : List Str), (["c", "letters", "most", "k"] : List Str), f__law_word⟩, ⟨d__law_spoilt, (["c", "value"] : List Str), (["c", "value", "k"] : List Str), f__law_spoilt⟩, ⟨d__law_bent, (["c", "value", "turn"] : List Str), (["c", "value", "turn", "k"] : List Str), f__law_bent⟩, ⟨d__law_divisor_of, (["c"] : List Str), (["c", "middle", "k"] : List Str), f__law_divisor_of⟩, ⟨d__law_rest, (["divisor", "row"] : List Str), (["divisor", "row", "k", "left", "r", "e"] : List Str), f__law_rest⟩, ⟨d__law_row, (["places", "n"] : List Str), (["places", "n", "k"] : List Str), f__law_row⟩, ⟨d__law_subsets, (["n", "most"] : List Str), (["n", "most", "size", "found", "layer", "more", "one", "k"] : List Str), f__law_subsets⟩, ⟨d__law_missed, (["divisor", "n", "kind"] : List Str), (["divisor", "n", "kind", "found", "places"] : List Str), f__law_missed⟩, ⟨d__law_fits, (["places", "kind"] : List Str), (["places", "kind"] : List Str), f__law_fits⟩, ⟨d__law_is_paper, (["divisor", "n", "kind", "missed", "value"] : List Str), (["divisor", "n", "kind", "missed", "value", "one"] : List Str), f__law_is_paper⟩, ⟨d_law, (["script"] : List Str), (["script", "c", "divisor", "r", "row", "right", "order", "n", "kind", "most", "first", "missed", "paper", "turn", "bent", "told", "k", "t", "places"] : List Str), f_law⟩]
abbrev R : PySem.W.OpenRow := PySem.W.OpenLaw.row PySem.Challenge.rw_signworth_k43_divided_rows
abbrev hk : PySem.W.Hook := He.hookD 4 fa fn
def ob (s : PySem.W.SharedT) : He.AlD := He.obsDG 4 fa fn (HandSHeadRun.getT s)
theorem ob_eq (s : PySem.W.SharedT) : ob s = hk.obs s.abs := He.obsDG_eq (HandSHeadRun.getT_eq s)
theorem run (w : World) : HandSHeadRun.RunEq R (PySem.W.view R.prog [32]) hk ob 1000 loose w := by
  intro os
  kernel_rfl
theorem chk_all : (defs.all fun D => okD (fnsOf defs) glos D) = true := by decide +kernel
theorem prog_eq : progOf defs = prog := rfl
theorem bind_all : ∀ D ∈ defs, ∀ (kV doc pm : Value) (an : Option Addr) (cdv ct : Value) (us : List Value), us.length = D.ps.length → bindArgs (PySem.W.fnOf D.d.name D.d.qual D.d.params D.d.body D.d.scope .none kV doc pm an cdv ct) ⟨us, []⟩ = pure (D.ps.zip us) := by
  intro D hD
  simp only [defs, List.mem_cons, List.not_mem_nil, or_false] at hD
  rcases hD with rfl | rfl | rfl | rfl | rfl | rfl | rfl | rfl | rfl | rfl | rfl | rfl | rfl | rfl | rfl | rfl | rfl | rfl | rfl | rfl | rfl | rfl | rfl | rfl | rfl | rfl | rfl | rfl | rfl | rfl
  · exact fun kV doc pm an cdv ct us hl => match us, hl with | [_], _ => rfl
  · exact fun kV doc pm an cdv ct us hl => match us, hl with | [_, _], _ => rfl
  · exact fun kV doc pm an cdv ct us hl => match us, hl with | [_, _], _ => rfl
  · exact fun kV doc pm an cdv ct us hl => match us, hl with | [_, _], _ => rfl
  · exact fun kV doc pm an cdv ct us hl => match us, hl with | [_, _], _ => rfl
  · exact fun kV doc pm an cdv ct us hl => match us, hl with | [_], _ => rfl
  · exact fun kV doc pm an cdv ct us hl => match us, hl with | [_, _], _ => rfl
  · exact fun kV doc pm an cdv ct us hl => match us, hl with | [_, _, _, _], _ => rfl
  · exact fun kV doc pm an cdv ct us hl => match us, hl with | [_, _], _ => rfl
  · exact fun kV doc pm an cdv ct us hl => match us, hl with | [_, _, _], _ => rfl
  · exact fun kV doc pm an cdv ct us hl => match us, hl with | [_, _], _ => rfl
  · exact fun kV doc pm an cdv ct us hl => match us, hl with | [_, _, _, _], _ => rfl
  · exact fun kV doc pm an cdv ct us hl => match us, hl with | [_, _], _ => rfl
  · exact fun kV doc pm an cdv ct us hl => match us, hl with | [_], _ => rfl
  · exact fun kV doc pm an cdv ct us hl => match us, hl with | [_], _ => rfl
  · exact fun kV doc pm an cdv ct us hl => match us, hl with | [_, _], _ => rfl
  · exact fun kV doc pm an cdv ct us hl => match us, hl with | [_], _ => rfl
  · exact fun kV doc pm an cdv ct us hl => match us, hl with | [_, _], _ => rfl
  · exact fun kV doc pm an cdv ct us hl => match us, hl with | [_, _], _ => rfl
  · exact fun kV doc pm an cdv ct us hl => match us, hl with | [_, _, _], _ => rfl
  · exact fun kV doc pm an cdv ct us hl => match us, hl with | [_, _], _ => rfl
  · exact fun kV doc pm an cdv ct us hl => match us, hl with | [_, _, _], _ => rfl
  · exact fun kV doc pm an cdv ct us hl => match us, hl with | [_], _ => rfl
  · exact fun kV doc pm an cdv ct us hl => match us, hl with | [_, _], _ => rfl
  · exact fun kV doc pm an cdv ct us hl => match us, hl with | [_, _], _ => rfl
  · exact fun kV doc pm an cdv ct us hl => match us, hl with | [_, _], _ => rfl
  · exact fun kV doc pm an cdv ct us hl => match us, hl with | [_, _, _], _ => rfl
  · exact fun kV doc pm an cdv ct us hl => match us, hl with | [_, _], _ => rfl
  · exact fun kV doc pm an cdv ct us hl => match us, hl with | [_, _, _, _, _], _ => rfl
  · exact fun kV doc pm an cdv ct us hl => match us, hl with | [_], _ => rfl
theorem world {K : PySem.W.Frag} {mg : Str → Option Value} {h : Heap} (KX : K.In h) (c : He.SaysD fa fn K) (Gm : h.Ns mainGlobals mg) : World0 K mg defs glos := by
  refine ⟨fun D hD => ?_, bind_all, fun D hD => List.all_eq_true.mp chk_all D hD, fun j x p hj => ?_, fun x hx => ?_⟩
  · simp only [defs, List.mem_cons, List.not_mem_nil, or_false] at hD
    rcases hD with rfl | rfl | rfl | rfl | rfl | rfl | rfl | rfl | rfl | rfl | rfl | rfl | rfl | rfl | rfl | rfl | rfl | rfl | rfl | rfl | rfl | rfl | rfl | rfl | rfl | rfl | rfl | rfl | rfl | rfl
    · exact ⟨He.glo_ok KX Gm (c.fact 0), c.def_ 0⟩
    · exact ⟨He.glo_ok KX Gm (c.fact 1), c.def_ 1⟩
    · exact ⟨He.glo_ok KX Gm (c.fact 2), c.def_ 2⟩
    · exact ⟨He.glo_ok KX Gm (c.fact 3), c.def_ 3⟩
    · exact ⟨He.glo_ok KX Gm (c.fact 4), c.def_ 4⟩
    · exact ⟨He.glo_ok KX Gm (c.fact 5), c.def_ 5⟩
    · exact ⟨He.glo_ok KX Gm (c.fact 6), c.def_ 6⟩
    · exact ⟨He.glo_ok KX Gm (c.fact 7), c.def_ 7⟩
    · exact ⟨He.glo_ok KX Gm (c.fact 8), c.def_ 8⟩
    · exact ⟨He.glo_ok KX Gm (c.fact 9), c.def_ 9⟩
    · exact ⟨He.glo_ok KX Gm (c.fact 10), c.def_ 10⟩
    · exact ⟨He.glo_ok KX Gm (c.fact 11), c.def_ 11⟩
    · exact ⟨He.glo_ok KX Gm (c.fact 12), c.def_ 12⟩
    · exact ⟨He.glo_ok KX Gm (c.fact 13), c.def_ 13⟩
    · exact ⟨He.glo_ok KX Gm (c.fact 14), c.def_ 14⟩
    · exact ⟨He.glo_ok KX Gm (c.fact 15), c.def_ 15⟩
    · exact ⟨He.glo_ok KX Gm (c.fact 16), c.def_ 16⟩
    · exact ⟨He.glo_ok KX Gm (c.fact 17), c.def_ 17⟩
    · exact ⟨He.glo_ok KX Gm (c.fact 18), c.def_ 18⟩
    · exact ⟨He.glo_ok KX Gm (c.fact 19), c.def_ 19⟩
    · exact ⟨He.glo_ok KX Gm (c.fact 20), c.def_ 20⟩
    · exact ⟨He.glo_ok KX Gm (c.fact 21), c.def_ 21⟩
    · exact ⟨He.glo_ok KX Gm (c.fact 22), c.def_ 22⟩
    · exact ⟨He.glo_ok KX Gm (c.fact 23), c.def_ 23⟩
    · exact ⟨He.glo_ok KX Gm (c.fact 24), c.def_ 24⟩
    · exact ⟨He.glo_ok KX Gm (c.fact 25), c.def_ 25⟩
    · exact ⟨He.glo_ok KX Gm (c.fact 26), c.def_ 26⟩
    · exact ⟨He.glo_ok KX Gm (c.fact 27), c.def_ 27⟩
    · exact ⟨He.glo_ok KX Gm (c.fact 28), c.def_ 28⟩
    · exact ⟨He.glo_ok KX Gm (c.fact 29), c.def_ 29⟩
  · cases hj
  · simp only [bltNames, List.mem_cons, List.not_mem_nil, or_false] at hx
    rcases hx with rfl | rfl | rfl | rfl | rfl | rfl | rfl | rfl | rfl | rfl | rfl | rfl | rfl | rfl | rfl | rfl
    · exact He.free_ok KX Gm (c.fact 30)
    · exact He.free_ok KX Gm (c.fact 31)
    · exact He.free_ok KX Gm (c.fact 32)
    · exact He.free_ok KX Gm (c.fact 33)
    · exact He.free_ok KX Gm (c.fact 34)
    · exact He.free_ok KX Gm (c.fact 35)
    · exact He.free_ok KX Gm (c.fact 36)
    · exact He.free_ok KX Gm (c.fact 37)
    · exact He.free_ok KX Gm (c.fact 38)
    · exact He.free_ok KX Gm (c.fact 39)
    · exact He.free_ok KX Gm (c.fact 40)
    · exact He.free_ok KX Gm (c.fact 41)
    · exact He.free_ok KX Gm (c.fact 42)
    · exact He.free_ok KX Gm (c.fact 43)
    · exact He.free_ok KX Gm (c.fact 44)
    · exact He.free_ok KX Gm (c.fact 45)
open PySem PySem.W PySem.Calls PyProof.Rows
theorem holds_of (hl : ∀ ns : List Int, ns.length ≤ 63 → ∃ rs, callF prog G 200 29 [.imm (.lst (ns.map P.int))] = some (.imm (.bl true), rs)) : PySem.Challenge.rw_signworth_k43_divided_rows.Holds := by
  w_on; o_law
  refine HandSHeadRun.head_any (r := OpenLaw.row PySem.Challenge.rw_signworth_k43_divided_rows) (q := view (OpenLaw.row PySem.Challenge.rw_signworth_k43_divided_rows).prog [32]) (H := hk) (ob := ob) (M := 1000) (loose := loose) (d := HandSHeadRun.topDef (OpenLaw.row PySem.Challenge.rw_signworth_k43_divided_rows).prog 32) (kwd := []) ob_eq
    (by kernel_rfl) (fun s => by kernel_rfl) run (by kernel_rfl) (by kernel_rfl) (by kernel_rfl) (by rfl) (by first | assumption | decide +kernel) (by decide +kernel) ⟨rfl, rfl, rfl, rfl, rfl, by decide +kernel⟩ ?hw ?hc
  case hw => w_witness2
  case hc =>
    refine L2.walk_ofE (l := PySem.Challenge.rw_signworth_k43_divided_rows) (n := 63) (k := 200) (x := "script") (CX := L2.CX0) rfl (by decide) (by kernel_rfl) ⟨rfl, by decide, by decide⟩ ?F (fun _ _ _ _ z => z)
    intro w mg fa h Y Gm hmg0
    obtain ⟨K, KX, c⟩ := Y
    have hmg : mg ("law" : PySem.Str) = some (.ref fa) := by
      have e : (HandSHeadRun.topDef (OpenLaw.row PySem.Challenge.rw_signworth_k43_divided_rows).prog 32).name = ("law" : PySem.Str) := by kernel_rfl
      rw [← e]
      exact hmg0
    have W0 := world KX c Gm
    have hfa : fa = He.fAd K ("law", none) := by
      have := (W0.fns _ (List.mem_of_getElem? (show defs[29]? = some _ from rfl))).1
      have e2 : mg "law" = some (.ref (He.fAd K ("law", none))) := this
      rw [hmg] at e2
      cases e2
      rfl
    obtain ⟨_, fd, F⟩ := W0.fns _ (List.mem_of_getElem? (show defs[29]? = some _ from rfl))
    subst hfa
    refine ⟨K, fd, _, KX, fun s u => (fn_all W0 (PySem.Challenge.rw_signworth_k43_divided_rows).prog w h 0 29 _ fd rfl F).2.2.1 s [u] rfl, law_sp (prog := prog) (G := G) (k := 200) (j := 29) hl, fun base b1 b2 => ?_⟩
    exact (fn_all W0 (PySem.Challenge.rw_signworth_k43_divided_rows).prog w base 200 29 _ fd rfl F).2.2.2
end k43
end Sw
/-! Sx: the evaluator, step by step, by simp. -/
namespace Sw
section
variable {Φ : CallS} {G : List P} {e : En}
@[simp] theorem sx_nm (i : Nat) : evo Φ G (.nm i) e = (nmSem i e).bind fun o => some (o, e) := by simp only [evo]
@[simp] theorem sx_cst (p : P) : evo Φ G (.cst p) e = some (.tmp (.imm p), e) := by simp only [evo]
@[simp] theorem sx_glo (x : Nat) : evo Φ G (.glo x) e = (G[x]?).bind fun p => some (.tmp (.imm p), e) := by simp only [evo]
@[simp] theorem sx_mv (x : Nat) : evo Φ G (.mv x) e = mvSem x e := by simp only [evo]
@[simp] theorem sx_tup (es : List E) : evo Φ G (.tup es) e = (evos Φ G es e).bind fun r => (immOs r.1).bind fun ps => if ps.length ≤ line then some (.tmp (.imm (.tup ps)), r.2) else none := by simp only [evo]
@[simp] theorem sx_lst (es : List E) : evo Φ G (.lst es) e = (evos Φ G es e).bind fun r => (immOs r.1).bind fun ps => if ps.length ≤ line then some (.tmp (.lst ps), r.2) else none := by simp only [evo]
@[simp] theorem sx_op (o : Op) (es : List E) : evo Φ G (.op o es) e = (evos Φ G es e).bind fun r => (resvs r.2 r.1).bind fun ds => (opSem o ds).bind fun d => some (.tmp d, r.2) := by simp only [evo]
@[simp] theorem sx_mth (o : Op) (a : E) (es : List E) : evo Φ G (.mth o a es) e = (evo Φ G a e).bind fun x => (resv x.2 x.1).bind fun d0 => if rcvOk o d0 then (evos Φ G es x.2).bind fun r => (resvs r.2 (x.1 :: r.1)).bind fun ds => (opSem o ds).bind fun d => some (.tmp d, r.2) else none := by simp only [evo]
@[simp] theorem sx_chain (o1 o2 : Op) (a b c : E) : evo Φ G (.chain o1 o2 a b c) e = (evo Φ G a e).bind fun x => (evo Φ G b x.2).bind fun y => (resvs y.2 [x.1, y.1]).bind fun ds => (opSem o1 ds).bind fun r =>
      (match r with
      | .imm (.bl true) => (evo Φ G c y.2).bind fun z => (resvs z.2 [y.1, z.1]).bind fun ds => (opSem o2 ds).bind fun d => some (.tmp d, z.2)
      | .imm (.bl false) => some (.tmp (.imm (.bl false)), y.2)
      | _ => none) := by simp only [evo] <;> rfl
@[simp] theorem sx_and (es : List E) : evo Φ G (.and es) e = evand Φ G es e := by simp only [evo]
@[simp] theorem sx_or (es : List E) : evo Φ G (.or es) e = evor Φ G es e := by simp only [evo]
@[simp] theorem sx_not (a : E) : evo Φ G (.not a) e = (evo Φ G a e).bind fun x => (resv x.2 x.1).bind fun d => (truth d).bind fun b => some (.tmp (.imm (.bl (!b))), x.2) := by simp only [evo]
@[simp] theorem sx_ife (t a b : E) : evo Φ G (.ife t a b) e = (evo Φ G t e).bind fun x => (resv x.2 x.1).bind fun d => (truth d).bind fun k => if k then evo Φ G a x.2 else evo Φ G b x.2 := by simp only [evo]
@[simp] theorem sx_slc (a : E) (lo hi : Option E) : evo Φ G (.slc a lo hi) e = (evo Φ G a e).bind fun x => (evopt Φ G lo x.2).bind fun l => (evopt Φ G hi l.2).bind fun h => (resv h.2 x.1).bind fun d => (slcSem d l.1 h.1).bind fun r => some (.tmp r, h.2) := by simp only [evo]
@[simp] theorem sx_mut (m : MOp) (i : Nat) (es : List E) : evo Φ G (.mut m i es) e = (getE e i).bind fun d0 => (listOf d0).bind fun _ => (evos Φ G es e).bind fun r => (mutDo m i r.1 r.2).bind fun q => some (.tmp (.imm q.1), q.2) := by simp only [evo]
@[simp] theorem sx_call (f : Nat) (es : List E) : evo Φ G (.call f es) e = (evos Φ G es e).bind fun r => (resvs r.2 r.1).bind fun ds => (Φ f ds).bind fun q => (back r.1 ds q.2 r.2).bind fun e2 => some (.tmp q.1, e2) := by simp only [evo]
@[simp] theorem sx_frz (a : E) : evo Φ G (.frz a) e = (evo Φ G a e).bind fun x => (frzSem x.1 x.2).bind fun q => some (.tmp (.imm q.1), q.2) := by simp only [evo]
def stepCc (Φ : CallS) (G : List P) (own : List Nat) (t : Pat) (tests : List E) (elt : E) (os : List Opd) (e1 : En) (p : P) (acc : List P) (e2 : En) : Option (List P × En) :=
  (bindP t p e2).bind fun e3 => (evtests Φ G tests e3).bind fun b =>
    if b.1 then (evo Φ G elt b.2).bind fun x => (immO x.1).bind fun q => if lockOk os e1 x.2 ∧ acc.length < line then some (acc ++ [q], wipeE x.2 own) else none
    else if lockOk os e1 b.2 then some (acc, wipeE b.2 own) else none
@[simp] theorem sx_cmp (own : List Nat) (t : Pat) (k : IK) (as tests : List E) (elt : E) : evo Φ G (.cmp own t k as tests elt) e = (evos Φ G as e).bind fun r => (resvs r.2 r.1).bind fun ds => (items k ds).bind fun ps =>
      if freeOf r.1 own then (compL (stepCc Φ G own t tests elt r.1 r.2) ps [] (wipeE r.2 own)).bind fun z => some (.tmp (.lst z.1), putBack z.2 r.2 own) else none := by simp only [evo]; rfl
@[simp] theorem sx_nil : evos Φ G [] e = some ([], e) := by simp only [evos]
@[simp] theorem sx_cons (a : E) (as : List E) : evos Φ G (a :: as) e = (evo Φ G a e).bind fun x => (evos Φ G as x.2).bind fun xs => some (x.1 :: xs.1, xs.2) := by simp only [evos]
@[simp] theorem sx_on : evopt Φ G none e = some (none, e) := by simp only [evopt]
@[simp] theorem sx_os (a : E) : evopt Φ G (some a) e = (evo Φ G a e).bind fun x => (intO x.1).bind fun i => some (some i, x.2) := by simp only [evopt]
@[simp] theorem sx_and1 (a : E) : evand Φ G [a] e = evo Φ G a e := by simp only [evand]
@[simp] theorem sx_and2 (a b : E) (as : List E) : evand Φ G (a :: b :: as) e = (evo Φ G a e).bind fun x => (resv x.2 x.1).bind fun d => (truth d).bind fun k => if k then evand Φ G (b :: as) x.2 else some x := by rw [evand]
@[simp] theorem sx_or1 (a : E) : evor Φ G [a] e = evo Φ G a e := by simp only [evor]
@[simp] theorem sx_or2 (a b : E) (as : List E) : evor Φ G (a :: b :: as) e = (evo Φ G a e).bind fun x => (resv x.2 x.1).bind fun d => (truth d).bind fun k => if k then some x else evor Φ G (b :: as) x.2 := by rw [evor]
@[simp] theorem sx_t0 : evtests Φ G [] e = some (true, e) := by simp only [evtests]
@[simp] theorem sx_t1 (a : E) : evtests Φ G [a] e = (evo Φ G a e).bind fun x => (resv x.2 x.1).bind fun d => (truth d).bind fun b => some (b, x.2) := by simp only [evtests]
/-! statements -/
@[simp] theorem sx_asg (t : Pat) (a : E) : ex Φ G (.asg t a) e = (evo Φ G a e).bind fun x => (asgD t x.1 x.2).bind fun e' => some (.nx, e') := by simp only [ex]
@[simp] theorem sx_par (is : List Nat) (es : List E) : ex Φ G (.par is es) e = (evos Φ G es e).bind fun r => (setAll is r.1 r.2).bind fun e' => some (.nx, e') := by simp only [ex]
@[simp] theorem sx_aug (i : Nat) (o : Op) (a : E) : ex Φ G (.aug i o a) e = (nmSem i e).bind fun u => (evo Φ G a e).bind fun y => (resvs y.2 [u, y.1]).bind fun ds => (match ds with
      | [du, dy] => augSem o du dy
      | _ => none).bind fun d => some (.nx, y.2.set i (some d)) := by simp only [ex] <;> rfl
@[simp] theorem sx_sto (i : Nat) (k a : E) : ex Φ G (.sto i k a) e = (evo Φ G a e).bind fun x => (immO x.1).bind fun p => (getE x.2 i).bind fun _ => (evo Φ G k x.2).bind fun y => (immO y.1).bind fun q => (stoSem i q p y.2).bind fun e' => some (.nx, e') := by simp only [ex]
@[simp] theorem sx_ex (a : E) : ex Φ G (.ex a) e = (evo Φ G a e).bind fun x => some (.nx, x.2) := by simp only [ex]
@[simp] theorem sx_ret (a : E) : ex Φ G (.ret a) e = (evo Φ G a e).bind fun x => retD x.1 x.2 := by simp only [ex]
@[simp] theorem sx_ret0 : ex Φ G .ret0 e = some (.rt (.imm .non), e) := by simp only [ex]
@[simp] theorem sx_ifs (t : E) (a b : List T) : ex Φ G (.ifs t a b) e = (evo Φ G t e).bind fun x => (resv x.2 x.1).bind fun d => (truth d).bind fun k => if k then exs Φ G a x.2 else exs Φ G b x.2 := by simp only [ex]
def stepFf (Φ : CallS) (G : List P) (t : Pat) (body : List T) (p : P) (e2 : En) : Option (Fl × En) := (bindP t p e2).bind fun e3 => exs Φ G body e3
@[simp] theorem sx_for (t : Pat) (k : IK) (as : List E) (body : List T) : ex Φ G (.fors t k as body) e = (evos Φ G as e).bind fun r => (resvs r.2 r.1).bind fun ds => (items k ds).bind fun ps =>
      if freeOf r.1 (asgP t ++ asgTs body) then forL (stepFf Φ G t body) (fun e' => lockOk r.1 r.2 e') ps r.2 else none := by simp only [ex]; rfl
def stepWw (Φ : CallS) (G : List P) (t : E) (body : List T) (e : En) : Option (Bool × Fl × En) := (evo Φ G t e).bind fun x => (resv x.2 x.1).bind fun d => (truth d).bind fun k => if k then (exs Φ G body x.2).bind fun r => some (true, r.1, r.2) else some (false, .nx, x.2)
@[simp] theorem sx_whl (n : Nat) (t : E) (body : List T) : ex Φ G (.whl n t body) e = whlL (stepWw Φ G t body) n e := by simp only [ex]; rfl
@[simp] theorem sx_brk : ex Φ G .brk e = some (.bk, e) := by simp only [ex]
@[simp] theorem sx_cont : ex Φ G .cont e = some (.ct, e) := by simp only [ex]
@[simp] theorem sx_pass : ex Φ G .pass e = some (.nx, e) := by simp only [ex]
@[simp] theorem sx_snil : exs Φ G [] e = some (.nx, e) := by simp only [exs]
@[simp] theorem sx_scons (a : T) (as : List T) : exs Φ G (a :: as) e = (ex Φ G a e).bind fun r => match r.1 with
      | .nx => exs Φ G as r.2
      | f => some (f, r.2) := by simp only [exs] <;> rfl
end
/-! the pieces -/
@[simp] theorem sx_getE0 (x : Option D) (e : En) : getE (x :: e) 0 = x := by simp [getE]
@[simp] theorem sx_getES (x : Option D) (e : En) (i : Nat) : getE (x :: e) (i + 1) = getE e i := by simp [getE]
@[simp] theorem sx_nmI {i : Nat} {e : En} {p : P} (h : getE e i = some (.imm p)) : nmSem i e = some (.tmp (.imm p)) := by unfold nmSem; rw [h]
@[simp] theorem sx_nmL {i : Nat} {e : En} {p : List P} (h : getE e i = some (.lst p)) : nmSem i e = some (.slot i) := by unfold nmSem; rw [h]
@[simp] theorem sx_mvI {i : Nat} {e : En} {p : P} (h : getE e i = some (.imm p)) : mvSem i e = some (.tmp (.imm p), e) := by unfold mvSem; rw [h]
@[simp] theorem sx_mvL {i : Nat} {e : En} {p : List P} (h : getE e i = some (.lst p)) : mvSem i e = some (.tmp (.lst p), e.set i none) := by unfold mvSem; rw [h]
@[simp] theorem sx_rtmp (e : En) (d : D) : resv e (.tmp d) = some d := rfl
@[simp] theorem sx_rslot (e : En) (i : Nat) : resv e (.slot i) = getE e i := rfl
@[simp] theorem sx_rs0 (e : En) : resvs e [] = some [] := rfl
@[simp] theorem sx_rs1 (e : En) (o : Opd) (os : List Opd) : resvs e (o :: os) = (resv e o).bind fun d => (resvs e os).bind fun ds => some (d :: ds) := rfl
@[simp] theorem sx_im0 : immOs [] = some [] := rfl
@[simp] theorem sx_im1 (o : Opd) (os : List Opd) : immOs (o :: os) = (immO o).bind fun p => (immOs os).bind fun ps => some (p :: ps) := rfl
@[simp] theorem sx_imO (p : P) : immO (.tmp (.imm p)) = some p := rfl
@[simp] theorem sx_intO (i : Int) : intO (.tmp (.imm (.int i))) = some i := rfl
@[simp] theorem sx_fz1 (p : P) (e : En) : frzSem (.tmp (.imm p)) e = some (p, e) := rfl
@[simp] theorem sx_fz2 (p : List P) (e : En) : frzSem (.tmp (.lst p)) e = some (.lst p, e) := rfl
@[simp] theorem sx_fz3 {i : Nat} {e : En} {p : P} (h : getE e i = some (.imm p)) : frzSem (.slot i) e = some (p, e) := by unfold frzSem; simp only [h]
@[simp] theorem sx_fz4 {i : Nat} {e : En} {p : List P} (h : getE e i = some (.lst p)) : frzSem (.slot i) e = some (.lst p, e.set i (some (.imm (.lst p)))) := by unfold frzSem; simp only [h]
@[simp] theorem sx_as1 (t : Pat) (p : P) (e : En) : asgD t (.tmp (.imm p)) e = bindP t p e := rfl
@[simp] theorem sx_as2 (i : Nat) (p : List P) (e : En) : asgD (.nm i) (.tmp (.lst p)) e = some (e.set i (some (.lst p))) := rfl
@[simp] theorem sx_bp1 (i : Nat) (p : P) (e : En) : bindP (.nm i) p e = some (e.set i (some (.imm p))) := by simp only [bindP]
@[simp] theorem sx_bp2 (ts : List Pat) (ps : List P) (e : En) : bindP (.tp ts) (.tup ps) e = bindPs ts ps e := by simp only [bindP]
@[simp] theorem sx_bps0 (e : En) : bindPs [] [] e = some e := by simp only [bindPs]
@[simp] theorem sx_bps1 (t : Pat) (ts : List Pat) (p : P) (ps : List P) (e : En) : bindPs (t :: ts) (p :: ps) e = (bindP t p e).bind fun e' => bindPs ts ps e' := by simp only [bindPs]
@[simp] theorem sx_rd1 (d : D) (e : En) : retD (.tmp d) e = some (.rt d, e) := rfl
@[simp] theorem sx_rd2 (i : Nat) (e : En) : retD (.slot i) e = (getE e i).bind fun d => some (.rt d, e.set i none) := rfl
@[simp] theorem sx_sa0 (e : En) : setAll [] [] e = some e := rfl
@[simp] theorem sx_sa1 (i : Nat) (is : List Nat) (d : D) (os : List Opd) (e : En) : setAll (i :: is) (.tmp d :: os) e = setAll is os (e.set i (some d)) := rfl
@[simp] theorem sx_bk0 (e : En) : back [] [] [] e = some e := rfl
@[simp] theorem sx_bk1 (d d' r : D) (os : List Opd) (ds rs : List D) (e : En) : back (.tmp d' :: os) (d :: ds) (r :: rs) e = back os ds rs e := rfl
@[simp] theorem sx_bk2 (i : Nat) (p : P) (r : D) (os : List Opd) (ds rs : List D) (e : En) : back (.slot i :: os) (.imm p :: ds) (r :: rs) e = back os ds rs e := rfl
@[simp] theorem sx_bk3 (i : Nat) (p : List P) (r : D) (os : List Opd) (ds rs : List D) (e : En) : back (.slot i :: os) (.lst p :: ds) (r :: rs) e = if noSlot os i then (back os ds rs (e.set i none)).bind fun e' => some (e'.set i (some r)) else none := rfl
@[simp] theorem sx_ns0 (i : Nat) : noSlot [] i = true := rfl
@[simp] theorem sx_ns1 (i : Nat) (d : D) (os : List Opd) : noSlot (.tmp d :: os) i = noSlot os i := by simp [noSlot]
@[simp] theorem sx_ns2 (i j : Nat) (os : List Opd) : noSlot (.slot j :: os) i = ((j != i) && noSlot os i) := by simp [noSlot]
@[simp] theorem sx_fr0 (l : List Nat) : freeOf [] l = true := rfl
@[simp] theorem sx_fr1 (l : List Nat) (d : D) (os : List Opd) : freeOf (.tmp d :: os) l = freeOf os l := by simp [freeOf]
@[simp] theorem sx_fr2 (l : List Nat) (j : Nat) (os : List Opd) : freeOf (.slot j :: os) l = (!l.contains j && freeOf os l) := by simp [freeOf]
@[simp] theorem sx_lk0 (e e' : En) : lockOk [] e e' = true := rfl
@[simp] theorem sx_lk1 (e e' : En) (d : D) (os : List Opd) : lockOk (.tmp d :: os) e e' = lockOk os e e' := by simp [lockOk]
@[simp] theorem sx_lk2 (e e' : En) (j : Nat) (os : List Opd) : lockOk (.slot j :: os) e e' = (decide (getE e' j = getE e j) && lockOk os e e') := by simp [lockOk]
@[simp] theorem sx_agP1 (i : Nat) : asgP (.nm i) = [i] := by simp only [asgP]
@[simp] theorem sx_agP2 (ts : List Pat) : asgP (.tp ts) = asgPs ts := by simp only [asgP]
@[simp] theorem sx_agPs0 : asgPs [] = [] := by simp only [asgPs]
@[simp] theorem sx_agPs1 (t : Pat) (ts : List Pat) : asgPs (t :: ts) = asgP t ++ asgPs ts := by simp only [asgPs]
@[simp] theorem sx_mutDo {m : MOp} {i : Nat} {os : List Opd} {e : En} {xs : List P} (h : getE e i = some (.lst xs)) : mutDo m i os e = (resvs e os).bind fun ds => if noSlot os i then (mutSem m xs ds).bind fun r => some (r.2, e.set i (some (.lst r.1))) else none := by
  unfold mutDo
  simp only [h]
@[simp] theorem sx_sto' {i : Nat} {j : Int} {p : P} {e : En} {xs : List P} (h : getE e i = some (.lst xs)) : stoSem i (.int j) p e = (ixP xs.length j).bind fun n => some (e.set i (some (.lst (xs.set n p)))) := by
  unfold stoSem
  simp only [h]
@[simp] theorem sx_wipe0 (e : En) : wipeE e [] = e := rfl
@[simp] theorem sx_wipe1 (e : En) (i : Nat) (is : List Nat) : wipeE e (i :: is) = (wipeE e is).set i none := rfl
@[simp] theorem sx_put0 (e e0 : En) : putBack e e0 [] = e := rfl
@[simp] theorem sx_put1 (e e0 : En) (i : Nat) (is : List Nat) : putBack e e0 (i :: is) = putBack (e.set i (keepImm (getE e0 i))) e0 is := rfl
@[simp] theorem sx_keep1 (p : P) : keepImm (some (.imm p)) = some (.imm p) := rfl
@[simp] theorem sx_keep2 : keepImm none = none := rfl
@[simp] theorem sx_keep3 (p : List P) : keepImm (some (.lst p)) = none := rfl
/-! ### weakest preconditions -/
def wp {α : Type} (x : Option α) (Q : α → Prop) : Prop := ∃ a, x = some a ∧ Q a
section
variable {α β : Type} {Q : α → Prop}
@[simp] theorem wp_some (a : α) : wp (some a) Q ↔ Q a := ⟨fun ⟨_, e, q⟩ => by cases e; exact q, fun q => ⟨a, rfl, q⟩⟩
@[simp] theorem wp_none : wp (none : Option α) Q ↔ False := ⟨fun ⟨_, e, _⟩ => (nomatch e), False.elim⟩
@[simp] theorem wp_bind (x : Option β) (f : β → Option α) : wp (x.bind f) Q ↔ wp x fun a => wp (f a) Q := by
  cases x with
  | none => simp [wp]
  | some b => simp
theorem wp_mono {x : Option α} {Q' : α → Prop} (h : wp x Q) (hq : ∀ a, Q a → Q' a) : wp x Q' := let ⟨a, e, q⟩ := h; ⟨a, e, hq a q⟩
theorem wp_eq {x : Option α} {a : α} (h : x = some a) (q : Q a) : wp x Q := ⟨a, h, q⟩
end
theorem wp_for {step : P → En → Option (Fl × En)} {ok : En → Bool} {Q : Fl × En → Prop} (I : Nat → En → Prop) {ps : List P} {e : En} (h0 : I 0 e)
    (hs : ∀ i p e, ps[i]? = some p → I i e → wp (step p e) fun r => match r.1 with
      | .nx => ok r.2 = true ∧ I (i + 1) r.2
      | .ct => ok r.2 = true ∧ I (i + 1) r.2
      | .bk => Q (.nx, r.2)
      | .rt d => Q (.rt d, r.2))
    (hd : ∀ e, I ps.length e → Q (.nx, e)) : wp (forL step ok ps e) Q := by
  have key : ∀ (qs : List P) (i : Nat) (e : En), ps.drop i = qs → I i e → i ≤ ps.length → wp (forL step ok qs e) Q := by
    intro qs
    induction qs with
    | nil =>
      intro i e hq hi hl
      have : i = ps.length := by
        have := congrArg List.length hq
        rw [List.length_drop, List.length_nil] at this
        omega
      subst this
      unfold forL
      exact (wp_some _).mpr (hd e hi)
    | cons p qs ih =>
      intro i e hq hi hl
      have hp : ps[i]? = some p := by
        have := congrArg (fun l : List P => l[0]?) hq
        simpa using this
      have hlt : i < ps.length := (List.getElem?_eq_some_iff.mp hp).1
      have hq' : ps.drop (i + 1) = qs := by
        have := congrArg List.tail hq
        simpa using this
      unfold forL
      rw [wp_bind]
      refine wp_mono (hs i p e hp hi) fun r hr => ?_
      obtain ⟨fl, e'⟩ := r
      cases fl with
      | nx => simp only at hr ⊢; rw [if_pos hr.1]; exact ih (i + 1) e' hq' hr.2 hlt
      | ct => simp only at hr ⊢; rw [if_pos hr.1]; exact ih (i + 1) e' hq' hr.2 hlt
      | bk => exact (wp_some _).mpr hr
      | rt d => exact (wp_some _).mpr hr
  exact key ps 0 e (List.drop_zero ..) h0 (Nat.zero_le _)
theorem wp_comp {step : P → List P → En → Option (List P × En)} {Q : List P × En → Prop} (I : Nat → List P → En → Prop) {ps : List P} {e : En} (h0 : I 0 [] e)
    (hs : ∀ i p acc e, ps[i]? = some p → I i acc e → wp (step p acc e) fun r => I (i + 1) r.1 r.2) (hd : ∀ acc e, I ps.length acc e → Q (acc, e)) : wp (compL step ps [] e) Q := by
  have key : ∀ (qs : List P) (i : Nat) (acc : List P) (e : En), ps.drop i = qs → I i acc e → i ≤ ps.length → wp (compL step qs acc e) Q := by
    intro qs
    induction qs with
    | nil =>
      intro i acc e hq hi hl
      have : i = ps.length := by
        have := congrArg List.length hq
        rw [List.length_drop, List.length_nil] at this
        omega
      subst this
      unfold compL
      exact (wp_some _).mpr (hd acc e hi)
    | cons p qs ih =>
      intro i acc e hq hi hl
      have hp : ps[i]? = some p := by
        have := congrArg (fun l : List P => l[0]?) hq
        simpa using this
      have hlt : i < ps.length := (List.getElem?_eq_some_iff.mp hp).1
      have hq' : ps.drop (i + 1) = qs := by
        have := congrArg List.tail hq
        simpa using this
      unfold compL
      rw [wp_bind]
      exact wp_mono (hs i p acc e hp hi) fun r hr => ih (i + 1) r.1 r.2 hq' hr hlt
  exact key ps 0 [] e (List.drop_zero ..) h0 (Nat.zero_le _)
theorem wp_whl {step : En → Option (Bool × Fl × En)} {Q : Fl × En → Prop} (I : Nat → En → Prop) {n : Nat} {e : En} {m : Nat} (h0 : I m e) (hm : m < n)
    (hs : ∀ m e, I m e → wp (step e) fun r => if r.1 = true then (match r.2.1 with
      | .nx => ∃ m', m' < m ∧ I m' r.2.2
      | .ct => ∃ m', m' < m ∧ I m' r.2.2
      | .bk => Q (.nx, r.2.2)
      | .rt d => Q (.rt d, r.2.2)) else Q (.nx, r.2.2)) : wp (whlL step n e) Q := by
  induction n generalizing m e with
  | zero => omega
  | succ n ih =>
    unfold whlL
    rw [wp_bind]
    refine wp_mono (hs m e h0) fun r hr => ?_
    obtain ⟨b, fl, e'⟩ := r
    cases b with
    | false => simpa using hr
    | true =>
      simp only [if_true] at hr ⊢
      cases fl with
      | nx => obtain ⟨m', h1, h2⟩ := hr; exact ih h2 (by omega)
      | ct => obtain ⟨m', h1, h2⟩ := hr; exact ih h2 (by omega)
      | bk => exact (wp_some _).mpr hr
      | rt d => exact (wp_some _).mpr hr
/-- a call, by its body -/
theorem call_wp {prog : List Fn} {G : List P} {k j : Nat} {ds : List D} {fn : Fn} {Q : D × List D → Prop} (h1 : prog[j]? = some fn) (h2 : ds.length = fn.np)
    (h : wp (exs (callF prog G k) G fn.body (ds.map some ++ List.replicate (fn.n - fn.np) none)) fun r => match r.1 with
      | .nx => wp (outs (asgTs fn.body) r.2 ds 0) fun rs => Q (.imm .non, rs)
      | .rt d => wp (outs (asgTs fn.body) r.2 ds 0) fun rs => Q (d, rs)
      | _ => False) : wp (callF prog G (k + 1) j ds) Q := by
  unfold callF
  rw [h1]
  simp only [Option.bind_some]
  rw [if_pos h2, wp_bind]
  refine wp_mono h fun r hr => ?_
  obtain ⟨fl, e'⟩ := r
  cases fl with
  | nx => rw [wp_bind]; exact wp_mono hr fun rs q => (wp_some _).mpr q
  | rt d => rw [wp_bind]; exact wp_mono hr fun rs q => (wp_some _).mpr q
  | bk => exact hr.elim
  | ct => exact hr.elim
@[simp] theorem sx_out0 (asg : List Nat) (e : En) (i : Nat) : outs asg e [] i = some [] := by simp only [outs]
@[simp] theorem sx_out1 (asg : List Nat) (e : En) (p : P) (ds : List D) (i : Nat) : outs asg e (.imm p :: ds) i = (outs asg e ds (i + 1)).bind fun rs => some (.imm p :: rs) := by simp only [outs, Option.bind_some]
@[simp] theorem sx_out2 (asg : List Nat) (e : En) (p : List P) (ds : List D) (i : Nat) : outs asg e (.lst p :: ds) i = (if asg.contains i then none else getE e i).bind fun r => (outs asg e ds (i + 1)).bind fun rs => some (r :: rs) := by simp only [outs]
end Sw
/-! Sy: the operators, by their kinds. -/
namespace Sw
section
variable {e : En} {a b : Int} {s t : List Nat} {ps qs : List P} {p q : P} {x : D}
theorem le_lineN {n : Nat} (h : n ≤ 100000) : n ≤ line := by show n ≤ 16777216; omega
theorem lt_lineN {n : Nat} (h : n ≤ 100000) : n < line := by show n < 16777216; omega
@[simp] theorem so_add : opSem .add [.imm (.int a), .imm (.int b)] = some (.imm (.int (a + b))) := rfl
theorem so_adds (h : s.length + t.length ≤ line) : opSem .add [.imm (.str s), .imm (.str t)] = some (.imm (.str (s ++ t))) := by simp only [opSem, opAdd, h, if_true]
theorem so_addt (h : ps.length + qs.length ≤ line) : opSem .add [.imm (.tup ps), .imm (.tup qs)] = some (.imm (.tup (ps ++ qs))) := by simp only [opSem, opAdd, h, if_true]
theorem so_addl (h : ps.length + qs.length ≤ line) : opSem .add [.lst ps, .lst qs] = some (.lst (ps ++ qs)) := by simp only [opSem, opAdd, h, if_true]
@[simp] theorem so_sub : opSem .sub [.imm (.int a), .imm (.int b)] = some (.imm (.int (a - b))) := rfl
theorem so_mul (h : mulOk a b = true) : opSem .mul [.imm (.int a), .imm (.int b)] = some (.imm (.int (a * b))) := by simp only [opSem, opMul, h, if_true]; rfl
@[simp] theorem so_neg : opSem .neg [.imm (.int a)] = some (.imm (.int (-a))) := rfl
theorem so_fdiv (h : b ≠ 0 ∧ b.natAbs < 1073741824) : opSem .fdiv [.imm (.int a), .imm (.int b)] = some (.imm (.int (a.fdiv b))) := by simp only [opSem, int2]; rw [if_pos h]; rfl
theorem so_mod (h : b ≠ 0) : opSem .mod [.imm (.int a), .imm (.int b)] = some (.imm (.int (a.fmod b))) := by simp only [opSem, int2]; rw [if_pos h]; rfl
@[simp] theorem so_lt : opSem .lt [.imm (.int a), .imm (.int b)] = some (.imm (.bl (decide (a < b)))) := rfl
@[simp] theorem so_le : opSem .le [.imm (.int a), .imm (.int b)] = some (.imm (.bl (decide (a ≤ b)))) := rfl
@[simp] theorem so_gt : opSem .gt [.imm (.int a), .imm (.int b)] = some (.imm (.bl (decide (b < a)))) := rfl
@[simp] theorem so_ge : opSem .ge [.imm (.int a), .imm (.int b)] = some (.imm (.bl (decide (b ≤ a)))) := rfl
@[simp] theorem so_isN : opSem .isN [x] = some (.imm (.bl (decide (x = .imm .non)))) := rfl
@[simp] theorem so_notN : opSem .notN [x] = some (.imm (.bl (!decide (x = .imm .non)))) := rfl
theorem eqv_int : peq (.int a) (.int b) = decide (a = b) := by simp only [peq]; by_cases h : a = b <;> simp [h]
theorem eqv_str : peq (.str s) (.str t) = decide (s = t) := by simp only [peq]; by_cases h : s = t <;> simp [h]
theorem cmp_int : cmpEq (.imm (.int a)) (.imm (.int b)) = some (decide (a = b)) := by
  unfold cmpEq
  rw [if_pos (by simp [rd, depth]), rd, rd, eqv_int]
theorem cmp_str : cmpEq (.imm (.str s)) (.imm (.str t)) = some (decide (s = t)) := by
  unfold cmpEq
  rw [if_pos (by simp [rd, depth]), rd, rd, eqv_str]
@[simp] theorem so_eqI : opSem .eq [.imm (.int a), .imm (.int b)] = some (.imm (.bl (decide (a = b)))) := by simp only [opSem, cmp_int]; rfl
@[simp] theorem so_neI : opSem .ne [.imm (.int a), .imm (.int b)] = some (.imm (.bl (!decide (a = b)))) := by simp only [opSem, cmp_int]; rfl
@[simp] theorem so_eqS : opSem .eq [.imm (.str s), .imm (.str t)] = some (.imm (.bl (decide (s = t)))) := by simp only [opSem, cmp_str]; rfl
@[simp] theorem so_neS : opSem .ne [.imm (.str s), .imm (.str t)] = some (.imm (.bl (!decide (s = t)))) := by simp only [opSem, cmp_str]; rfl
theorem so_inS : opSem .isin [.imm (.str s), .imm (.str t)] = some (.imm (.bl (findAt s t 0).isSome)) := rfl
theorem so_ninS : opSem .notin [.imm (.str s), .imm (.str t)] = some (.imm (.bl (!(findAt s t 0).isSome))) := rfl
theorem so_idxS (h : s.length ≤ line) : opSem .idx [.imm (.str s), .imm (.int a)] = (atP s a).bind fun c => some (.imm (.str [c])) := by simp only [opSem, opIdx, h, if_true]
@[simp] theorem so_idxT : opSem .idx [.imm (.tup ps), .imm (.int a)] = (atP ps a).bind fun c => some (.imm c) := rfl
@[simp] theorem so_idxF : opSem .idx [.imm (.lst ps), .imm (.int a)] = (atP ps a).bind fun c => some (.imm c) := rfl
@[simp] theorem so_idxL : opSem .idx [.lst ps, .imm (.int a)] = (atP ps a).bind fun c => some (.imm c) := rfl
theorem so_lenS (h : s.length ≤ line) : opSem .len [.imm (.str s)] = some (.imm (.int s.length)) := by simp only [opSem, opLen, h, if_true]; rfl
@[simp] theorem so_lenT : opSem .len [.imm (.tup ps)] = some (.imm (.int ps.length)) := rfl
@[simp] theorem so_lenF : opSem .len [.imm (.lst ps)] = some (.imm (.int ps.length)) := rfl
@[simp] theorem so_lenL : opSem .len [.lst ps] = some (.imm (.int ps.length)) := rfl
@[simp] theorem so_isi (ts : List Ty) : opSem (.isi ts) [x] = some (.imm (.bl (ts.any (isTy (rd x))))) := rfl
@[simp] theorem so_min : opSem .min2 [.imm (.int a), .imm (.int b)] = some (.imm (.int (if b < a then b else a))) := rfl
@[simp] theorem so_max : opSem .max2 [.imm (.int a), .imm (.int b)] = some (.imm (.int (if b > a then b else a))) := rfl
@[simp] theorem so_int : opSem .int [.imm (.int a)] = some (.imm (.int a)) := rfl
@[simp] theorem so_intB (c : Bool) : opSem .int [.imm (.bl c)] = some (.imm (.int (bI c))) := rfl
theorem so_tupL (h : ps.length ≤ line) : opSem .tuple [.lst ps] = some (.imm (.tup ps)) := by simp only [opSem, opTuple, elems, Option.bind_some, h, if_true]
theorem so_tupT (h : ps.length ≤ line) : opSem .tuple [.imm (.tup ps)] = some (.imm (.tup ps)) := by simp only [opSem, opTuple, elems, Option.bind_some, h, if_true]
theorem so_tupF (h : ps.length ≤ line) : opSem .tuple [.imm (.lst ps)] = some (.imm (.tup ps)) := by simp only [opSem, opTuple, elems, Option.bind_some, h, if_true]
theorem so_lisT (h : ps.length ≤ line) : opSem .list [.imm (.tup ps)] = some (.lst ps) := by simp only [opSem, opList, elems, Option.bind_some, h, if_true]
theorem so_lisS (h : s.length ≤ line) : opSem .list [.imm (.str s)] = some (.lst (s.map fun c => .str [c])) := by simp only [opSem, opList, elems, Option.bind_some, List.length_map, h, if_true]
@[simp] theorem so_revT : opSem .rev [.imm (.tup ps)] = some (.imm (.tup ps.reverse)) := rfl
theorem so_slcS {l h : Option Int} (c : s.length ≤ line) : slcSem (.imm (.str s)) l h = some (.imm (.str (cutP s l h))) := by simp only [slcSem, c, if_true]
@[simp] theorem so_slcT {l h : Option Int} : slcSem (.imm (.tup ps)) l h = some (.imm (.tup (cutP ps l h))) := rfl
@[simp] theorem so_slcF {l h : Option Int} : slcSem (.imm (.lst ps)) l h = some (.lst (cutP ps l h)) := rfl
@[simp] theorem so_slcL {l h : Option Int} : slcSem (.lst ps) l h = some (.lst (cutP ps l h)) := rfl
/-! truth -/
@[simp] theorem st_non : truth (.imm .non) = some false := rfl
@[simp] theorem st_bl (c : Bool) : truth (.imm (.bl c)) = some c := rfl
@[simp] theorem st_int : truth (.imm (.int a)) = some (a != 0) := rfl
theorem st_str (h : s.length ≤ line) : truth (.imm (.str s)) = some (!s.isEmpty) := by simp only [truth, h, if_true]
@[simp] theorem st_tup : truth (.imm (.tup ps)) = some (!ps.isEmpty) := rfl
@[simp] theorem st_lst : truth (.imm (.lst ps)) = some (!ps.isEmpty) := rfl
@[simp] theorem st_own : truth (.lst ps) = some (!ps.isEmpty) := rfl
/-! walks -/
theorem it_rng1 {n : Nat} (h : n ≤ 1000000) : items .rng1 [.imm (.int n)] = some ((List.range n).map fun k : Nat => P.int (k : Int)) := by
  have : small62 (n : Int) = true := by
    unfold small62
    exact decide_eq_true (by have e : (2:Int)^62 = 4611686018427387904 := by decide
                             omega)
  simp only [items, this, if_true, Int.toNat_natCast]
theorem it_rng2 {i j : Int} (h : -1000000 ≤ i ∧ i ≤ 1000000 ∧ -1000000 ≤ j ∧ j ≤ 1000000) : items .rng2 [.imm (.int i), .imm (.int j)] = some ((List.range (j - i).toNat).map fun k : Nat => P.int (i + (k : Int))) := by
  have e : (2:Int)^62 = 4611686018427387904 := by decide
  have h1 : small62 i = true := by unfold small62; exact decide_eq_true (by omega)
  have h2 : small62 j = true := by unfold small62; exact decide_eq_true (by omega)
  simp only [items, h1, h2, Bool.and_self, if_true]
@[simp] theorem it_seqL : items .seq [.lst ps] = some ps := rfl
@[simp] theorem it_seqF : items .seq [.imm (.lst ps)] = some ps := rfl
@[simp] theorem it_seqT : items .seq [.imm (.tup ps)] = some ps := rfl
@[simp] theorem it_seqS : items .seq [.imm (.str s)] = some (s.map fun c => .str [c]) := rfl
/-! changes -/
theorem mu_app (h : ps.length < line) : mutSem .append ps [.imm p] = some (ps ++ [p], .non) := by simp only [mutSem, h, if_true]
@[simp] theorem au_add : augSem .add (.imm (.int a)) (.imm (.int b)) = some (.imm (.int (a + b))) := rfl
@[simp] theorem au_sub : augSem .sub (.imm (.int a)) (.imm (.int b)) = some (.imm (.int (a - b))) := rfl
theorem au_str (h : s.length + t.length ≤ line) : augSem .add (.imm (.str s)) (.imm (.str t)) = some (.imm (.str (s ++ t))) := by simp only [augSem, h, if_true]
@[simp] theorem li_own : listOf (.lst ps) = some ps := rfl
@[simp] theorem li_imm : listOf (.imm (.lst ps)) = some ps := rfl
@[simp] theorem rd_imm : rd (.imm p) = p := rfl
@[simp] theorem rd_lst : rd (.lst ps) = .lst ps := rfl
end
/-! places and cuts -/
theorem ix_nat {n i : Nat} (h : i < n) : ixP n (i : Int) = some i := by
  unfold ixP
  rw [if_pos (by omega), if_pos (by omega)] <;> rfl
theorem at_nat {α : Type} {xs : List α} {i : Nat} (h : i < xs.length) : atP xs (i : Int) = xs[i]? := by
  unfold atP
  rw [ix_nat h, Option.bind_some]
theorem sIx_nat {n d i : Nat} : sIxP n d (some (i : Int)) = min i n := by
  unfold sIxP
  simp only
  rw [if_neg (by omega), Int.toNat_natCast]
theorem cut_nn {α : Type} (xs : List α) (i j : Nat) : cutP xs (some (i : Int)) (some (j : Int)) = (xs.drop i).take (j - i) := by
  unfold cutP
  rw [sIx_nat, sIx_nat]
  by_cases h : i ≤ xs.length
  · rw [Nat.min_eq_left h]
    by_cases h2 : j ≤ xs.length
    · rw [Nat.min_eq_left h2]
    · rw [Nat.min_eq_right (Nat.le_of_lt (Nat.lt_of_not_le h2)), List.take_of_length_le (by rw [List.length_drop]; exact Nat.le_refl _), List.take_of_length_le (by rw [List.length_drop]; omega)]
  · have e : min i xs.length = xs.length := Nat.min_eq_right (Nat.le_of_lt (Nat.lt_of_not_le h))
    rw [e, List.drop_of_length_le (Nat.le_refl _), List.drop_of_length_le (Nat.le_of_lt (Nat.lt_of_not_le h))]
    simp
theorem cut_n0 {α : Type} (xs : List α) (i : Nat) : cutP xs (some (i : Int)) none = xs.drop i := by
  unfold cutP
  rw [sIx_nat]
  show (xs.drop (min i xs.length)).take (xs.length - min i xs.length) = _
  by_cases h : i ≤ xs.length
  · rw [Nat.min_eq_left h, List.take_of_length_le (by rw [List.length_drop]; exact Nat.le_refl _)]
  · have e : min i xs.length = xs.length := Nat.min_eq_right (Nat.le_of_lt (Nat.lt_of_not_le h))
    rw [e, List.drop_of_length_le (Nat.le_refl _), List.drop_of_length_le (Nat.le_of_lt (Nat.lt_of_not_le h))]
    simp
theorem cut_0n {α : Type} (xs : List α) (j : Nat) : cutP xs none (some (j : Int)) = xs.take j := by
  unfold cutP
  rw [sIx_nat]
  show (xs.drop 0).take (min j xs.length - 0) = _
  rw [List.drop_zero, Nat.sub_zero]
  by_cases h : j ≤ xs.length
  · rw [Nat.min_eq_left h]
  · rw [Nat.min_eq_right (by omega), List.take_of_length_le (Nat.le_refl _), List.take_of_length_le (by omega)]
theorem wp_seq {Φ : CallS} {G : List P} {a : T} {as : List T} {e : En} {Q : Fl × En → Prop} (M : Fl × En → Prop) (h1 : ∀ R : Fl × En → Prop, (∀ r, M r → R r) → wp (ex Φ G a e) R) (h2 : ∀ r, M r → match r.1 with
    | .nx => wp (exs Φ G as r.2) Q
    | f => Q (f, r.2)) : wp (exs Φ G (a :: as) e) Q := by
  rw [sx_scons, wp_bind]
  refine h1 _ fun r hr => ?_
  have := h2 r hr
  obtain ⟨fl, e'⟩ := r
  cases fl with
  | nx => exact this
  | bk => exact (wp_some _).mpr this
  | ct => exact (wp_some _).mpr this
  | rt d => exact (wp_some _).mpr this
def tst (Φ : CallS) (G : List P) (t : E) (e : En) : Option (Bool × En) := (evo Φ G t e).bind fun x => (resv x.2 x.1).bind fun d => (truth d).bind fun k => some (k, x.2)
theorem wp_stepT {Φ : CallS} {G : List P} {t : E} {body : List T} {e e' : En} {Q : Bool × Fl × En → Prop} (h : tst Φ G t e = some (true, e')) (hb : wp (exs Φ G body e') fun r => Q (true, r.1, r.2)) : wp (stepWw Φ G t body e) Q := by
  have e1 : stepWw Φ G t body e = (tst Φ G t e).bind fun z => if z.1 then (exs Φ G body z.2).bind fun r => some (true, r.1, r.2) else some (false, .nx, z.2) := by
    unfold stepWw tst
    cases evo Φ G t e with
    | none => rfl
    | some x =>
      simp only [Option.bind_some]
      cases resv x.2 x.1 with
      | none => rfl
      | some d =>
        simp only [Option.bind_some]
        cases truth d <;> rfl
  rw [e1, h]
  simpa using hb
theorem wp_all {α : Type} {x : Option α} {M : α → Prop} (h : ∀ R : α → Prop, (∀ r, M r → R r) → wp x R) : ∃ r, x = some r ∧ M r := h M fun _ m => m
theorem at_last {α : Type} {xs : List α} (h : xs ≠ []) : atP xs (-1) = xs[xs.length - 1]? := by
  have hl : 0 < xs.length := List.length_pos_iff.mpr h
  have : ixP xs.length (-1) = some (xs.length - 1) := by
    unfold ixP
    rw [if_neg (by decide), if_pos (by omega)]
    congr 1
    omega
  unfold atP
  rw [this, Option.bind_some]
theorem mul_l {a b : Int} (h : -(2 ^ 64) < a ∧ a < 2 ^ 64) : mulOk a b = true := by
  unfold mulOk
  rw [decide_eq_true h] <;> rfl
theorem mul_r {a b : Int} (h : -(2 ^ 64) < b ∧ b < 2 ^ 64) : mulOk a b = true := by
  unfold mulOk
  rw [decide_eq_true (p := -(2 ^ 64) < b ∧ b < 2 ^ 64) h, Bool.or_true]
theorem wp_is {α : Type} {x : Option α} {a : α} (h : wp x fun r => r = a) : x = some a := by
  obtain ⟨b, e, rfl⟩ := h
  exact e
theorem rng_get {n i : Nat} {p : P} (h : ((List.range n).map fun k : Nat => P.int (k : Int))[i]? = some p) : i < n ∧ p = .int i := by
  have hi : i < n := by
    have := (List.getElem?_eq_some_iff.mp h).1
    simpa using this
  refine ⟨hi, ?_⟩
  have e : ((List.range n).map fun k : Nat => P.int (k : Int))[i]? = some (.int i) := by simp [hi]
  rw [e] at h
  exact (Option.some.inj h).symm
theorem chr_get {w : List Nat} {i : Nat} {p : P} (h : (w.map fun c => P.str [c])[i]? = some p) : ∃ c, w[i]? = some c ∧ p = .str [c] := by
  rw [List.getElem?_map] at h
  cases q : w[i]? with
  | none => rw [q] at h; cases h
  | some c => rw [q] at h; cases h; exact ⟨c, rfl, rfl⟩
theorem int_get {ns : List Int} {i : Nat} {p : P} (h : (ns.map P.int)[i]? = some p) : ∃ c, ns[i]? = some c ∧ p = .int c := by
  rw [List.getElem?_map] at h
  cases q : ns[i]? with
  | none => rw [q] at h; cases h
  | some c => rw [q] at h; cases h; exact ⟨c, rfl, rfl⟩
/-! what is drawn -/
def WC (xs : List P) : Prop := ∃ (ns : List Int) (i pool t : Nat), xs = [.lst (ns.map P.int), .int i, .int pool, .int t, .int 20] ∧ i ≤ ns.length
theorem atC {a b c d e : P} : atP [a, b, c, d, e] 0 = some a ∧ atP [a, b, c, d, e] 1 = some b ∧ atP [a, b, c, d, e] 2 = some c ∧ atP [a, b, c, d, e] 3 = some d := by
  refine ⟨?_, ?_, ?_, ?_⟩
  · exact at_nat (i := 0) (by simp)
  · exact at_nat (i := 1) (by simp)
  · exact at_nat (i := 2) (by simp)
  · exact at_nat (i := 3) (by simp)
theorem ixC : ixP 5 1 = some 1 ∧ ixP 5 2 = some 2 ∧ ixP 5 3 = some 3 := ⟨ix_nat (i := 1) (by decide), ix_nat (i := 2) (by decide), ix_nat (i := 3) (by decide)⟩
theorem mulK {a : Int} : mulOk a 69621 = true ∧ mulOk a 48271 = true ∧ mulOk a 7919 = true := ⟨mul_r (by decide), mul_r (by decide), mul_r (by decide)⟩
theorem mulM {a b : Int} : mulOk (a.fmod 2147483647) b = true := mul_l (by
  have h1 := Int.fmod_nonneg_of_pos a (show (0 : Int) < 2147483647 by decide)
  have h2 := Int.fmod_lt_of_pos a (show (0 : Int) < 2147483647 by decide)
  omega)
theorem fill_end (a : Int) (t : Nat) : ∃ n : Nat, (a * a + ((t : Int) + 1) * 7919 + 11).fdiv 64 + 36028797018963968 = (n : Int) := by
  refine Int.eq_ofNat_of_zero_le ?_
  have h1 : 0 ≤ a * a := by
    rcases Int.le_total 0 a with h | h
    · exact Int.mul_nonneg h h
    · exact Int.mul_nonneg_of_nonpos_of_nonpos h h
  have h2 : 0 ≤ (a * a + ((t : Int) + 1) * 7919 + 11).fdiv 64 := Int.fdiv_nonneg (by omega) (by decide)
  omega
end Sw
/-! Sz: what the laws share, without a program. -/
namespace Sw
def isI : P → Bool
  | .int _ => true
  | _ => false
theorem cut_b (w : List Nat) (b m : Nat) : cutP w (some (b : Int)) (some ((b : Int) + (m : Int))) = (w.drop b).take m := by
  rw [show (b : Int) + (m : Int) = ((b + m : Nat) : Int) by omega, cut_nn]
  congr 1
  omega
theorem truth_bls (bs : List Bool) : (bs.map P.bl).all fitP = true ∧ (bs.map P.bl).any truthP = bs.any id ∧ (bs.map P.bl).all truthP = bs.all id := by
  refine ⟨?_, ?_, ?_⟩
  · rw [List.all_map, List.all_eq_true]; intro x _; rfl
  · rw [List.any_map]; rfl
  · rw [List.all_map]; rfl
theorem so_any (bs : List Bool) : opSem .any [.lst (bs.map P.bl)] = some (.imm (.bl (bs.any id))) := by
  obtain ⟨h1, h2, h3⟩ := truth_bls bs
  simp only [opSem, opAny, seqOf, listOf, Option.bind_some, h1, h2, if_true]
  rfl
theorem so_all (bs : List Bool) : opSem .all [.lst (bs.map P.bl)] = some (.imm (.bl (bs.all id))) := by
  obtain ⟨h1, h2, h3⟩ := truth_bls bs
  simp only [opSem, opAll, seqOf, listOf, Option.bind_some, h1, h3, if_true]
  rfl
theorem it_zipT (a b : List P) : items .zip [.imm (.tup a), .imm (.tup b)] = some ((a.zip b).map fun q => .tup [q.1, q.2]) := rfl
def nat2 (bs : List Nat) : List P := bs.map fun b : Nat => P.int (b : Int)
def incr : List Nat → Bool
  | [] => true
  | [_] => true
  | a :: b :: r => decide (a < b) && incr (b :: r)
theorem incr_tail {a : Nat} {bs : List Nat} (h : incr (a :: bs) = true) : incr bs = true := by
  cases bs with
  | nil => rfl
  | cons b r =>
    have h : (decide (a < b) && incr (b :: r)) = true := h
    exact (Bool.and_eq_true _ _ ▸ h).2
theorem incr_at : ∀ {bs : List Nat} {i a b : Nat}, incr bs = true → bs[i]? = some a → bs[i + 1]? = some b → a < b
  | [], i, a, b, _, h, _ => by simp at h
  | [x], i, a, b, _, _, h => by simp at h
  | x :: y :: r, 0, a, b, h, h1, h2 => by
    have h : (decide (x < y) && incr (y :: r)) = true := h
    simp only [Bool.and_eq_true, decide_eq_true_eq] at h
    simp at h1 h2
    omega
  | x :: y :: r, i + 1, a, b, h, h1, h2 => by
    have h : (decide (x < y) && incr (y :: r)) = true := h
    simp only [Bool.and_eq_true] at h
    exact incr_at (i := i) h.2 (by simpa using h1) (by simpa using h2)
theorem zip_incr : ∀ bs : List Nat, ((bs.zip bs.tail).map fun q => decide (q.1 < q.2)).all id = incr bs
  | [] => rfl
  | [x] => rfl
  | x :: y :: r => by
    have ih := zip_incr (y :: r)
    show (decide (x < y) && (((y :: r).zip r).map fun q => decide (q.1 < q.2)).all id) = (decide (x < y) && incr (y :: r))
    rw [← ih]
    rfl
theorem all_isI : ∀ {ps : List P}, ps.all isI = true → ∃ ns : List Int, ps = ns.map P.int
  | [], _ => ⟨[], rfl⟩
  | p :: ps, h => by
    rw [List.all_cons, Bool.and_eq_true] at h
    obtain ⟨ns, rfl⟩ := all_isI h.2
    cases p <;> first | (cases h.1; done) | exact ⟨_ :: ns, rfl⟩
theorem wp_at {α : Type} {xs : List α} {d : Nat} {Q : α → Prop} (h : d < xs.length) (q : ∀ r, r ∈ xs → Q r) : wp (atP xs (d : Int)) Q := by
  rw [at_nat h, List.getElem?_eq_getElem h]
  exact ⟨_, rfl, q _ (List.getElem_mem h)⟩
theorem cut_len {α : Type} (xs : List α) (lo hi : Option Int) : (cutP xs lo hi).length ≤ xs.length := by
  unfold cutP
  rw [List.length_take, List.length_drop]
  omega
theorem cut_mem {α : Type} {xs : List α} {lo hi : Option Int} {x : α} (h : x ∈ cutP xs lo hi) : x ∈ xs := List.mem_of_mem_drop (List.mem_of_mem_take h)
def Sm (n : Nat) : Nat → P → Prop
  | 0, v => (match v with
    | .tup _ => False
    | .lst _ => False
    | .str s => s.length ≤ n
    | _ => True)
  | d + 1, v => (match v with
    | .tup ps => ps.length ≤ n ∧ ∀ p ∈ ps, Sm n d p
    | .lst ps => ps.length ≤ n ∧ ∀ p ∈ ps, Sm n d p
    | .str s => s.length ≤ n
    | _ => True)
theorem Sm.mono {n m : Nat} (h : n ≤ m) : ∀ {d : Nat} {v : P}, Sm n d v → Sm m d v
  | 0, v, q => by cases v <;> first | exact q | exact Nat.le_trans q h
  | d + 1, v, q => by cases v <;> first | exact q | exact Nat.le_trans q h | exact ⟨Nat.le_trans q.1 h, fun p hp => Sm.mono h (q.2 p hp)⟩
theorem Sm.up {n : Nat} : ∀ {d : Nat} {v : P}, Sm n d v → Sm n (d + 1) v
  | 0, v, q => by cases v <;> first | exact q | exact q.elim
  | d + 1, v, q => by cases v <;> first | exact q | exact ⟨q.1, fun p hp => Sm.up (q.2 p hp)⟩
theorem sm_int {n d : Nat} {i : Int} : Sm n d (.int i) := by cases d <;> trivial
theorem sm_bl {n d : Nat} {i : Bool} : Sm n d (.bl i) := by cases d <;> trivial
theorem sm_non {n d : Nat} : Sm n d .non := by cases d <;> trivial
theorem sm_str {n d : Nat} {s : List Nat} (h : s.length ≤ n) : Sm n d (.str s) := by cases d <;> exact h
theorem Sm.ups {n d : Nat} {v : P} (h : Sm n d v) : ∀ m, Sm n (d + m) v
  | 0 => h
  | m + 1 => (h.ups m).up
theorem sm_tup {n d : Nat} {ps : List P} (h : ps.length ≤ n) (q : ∀ p ∈ ps, Sm n d p) : Sm n (d + 1) (.tup ps) := ⟨h, q⟩
theorem sm_lst {n d : Nat} {ps : List P} (h : ps.length ≤ n) (q : ∀ p ∈ ps, Sm n d p) : Sm n (d + 1) (.lst ps) := ⟨h, q⟩
theorem nat2_snoc (bs : List Nat) (c : Nat) : nat2 bs ++ [P.int (c : Int)] = nat2 (bs ++ [c]) := by
  unfold nat2
  rw [List.map_append] <;> rfl
theorem nat2_len (bs : List Nat) : (nat2 bs).length = bs.length := by simp [nat2]
theorem so_mulL {xs : List P} {n : Nat} (h : xs.length * n ≤ line) (hn : n ≤ 100000) : opSem .mul [.lst xs, .imm (.int n)] = some (.lst (rept xs n)) := by
  have e : (2 : Int) ^ 62 = 4611686018427387904 := by decide
  simp only [opSem, opMul]
  rw [if_pos ⟨by omega, by omega, by rw [Int.toNat_natCast]; exact h⟩]
theorem rept_one (x : P) (n : Nat) : rept [x] (n : Int) = List.replicate n x := by
  unfold rept
  rw [Int.toNat_natCast]
  induction n with
  | zero => rfl
  | succ n ih => rw [List.replicate_succ, List.flatten_cons, ih, List.replicate_succ] <;> rfl
theorem nat2_get {T : List Nat} {j v : Nat} (h : T[j]? = some v) : atP (nat2 T) (j : Int) = some (.int v) := by
  have hl : j < (nat2 T).length := by rw [nat2_len]; exact (List.getElem?_eq_some_iff.mp h).1
  rw [at_nat hl]
  unfold nat2
  rw [List.getElem?_map, h] <;> rfl
theorem nat2_set (T : List Nat) (j v : Nat) : (nat2 T).set j (P.int (v : Int)) = nat2 (T.set j v) := by
  unfold nat2
  rw [List.map_set]
theorem min_nat (a b : Nat) : (if (b : Int) < (a : Int) then (b : Int) else (a : Int)) = ((min a b : Nat) : Int) := by
  split <;> omega
theorem so_neB (a b : Bool) : opSem .ne [.imm (.bl a), .imm (.bl b)] = some (.imm (.bl (a != b))) := by
  simp only [opSem, cmpEq, rd, depth, peq]
  cases a <;> cases b <;> rfl
theorem so_eqB (a b : Bool) : opSem .eq [.imm (.bl a), .imm (.bl b)] = some (.imm (.bl (a == b))) := by
  simp only [opSem, cmpEq, rd, depth, peq]
  cases a <;> cases b <;> rfl
def AL : Nat → P → Prop
  | 0, v => (match v with
    | .int _ => True
    | .str _ => True
    | _ => False)
  | d + 1, v => (match v with
    | .int _ => True
    | .str _ => True
    | .tup ps => ps.length ≤ 500 ∧ ∀ p ∈ ps, AL d p
    | _ => False)
theorem all_true (n : Nat) : (List.replicate n true).all id = true := by
  rw [List.all_eq_true]
  intro x hx
  rw [List.eq_of_mem_replicate hx] <;> rfl
theorem strs_all : ∀ ss : List (List Nat), allStrs (ss.map P.str) = some ss
  | [] => rfl
  | b :: bs => by
    rw [List.map_cons]
    show (allStrs (bs.map P.str)).map (b :: ·) = _
    rw [strs_all bs] <;> rfl
theorem joinL_nil : ∀ ss : List (List Nat), joinL [] ss = ss.flatten
  | [] => rfl
  | [x] => by simp [joinL]
  | x :: y :: r => by
    show x ++ [] ++ joinL [] (y :: r) = _
    rw [joinL_nil (y :: r), List.append_nil] <;> rfl
theorem so_join (ss : List (List Nat)) (h : (ss.map List.length).sum ≤ line) : opSem .join [.imm (.str []), .lst (ss.map P.str)] = some (.imm (.str ss.flatten)) := by
  simp only [opSem, opJoin, elems, Option.bind_some, strs_all]
  rw [if_pos (by simpa using h), joinL_nil]
theorem rept_chr (c n : Nat) : rept [c] (n : Int) = List.replicate n c := by
  unfold rept
  rw [Int.toNat_natCast]
  induction n with
  | zero => rfl
  | succ n ih => rw [List.replicate_succ, List.flatten_cons, ih, List.replicate_succ] <;> rfl
theorem so_mulS (c n : Nat) (h : n ≤ 100000) : opSem .mul [.imm (.str [c]), .imm (.int n)] = some (.imm (.str (List.replicate n c))) := by
  have e : (2 : Int) ^ 62 = 4611686018427387904 := by decide
  simp only [opSem, opMul]
  rw [if_pos ⟨by omega, by omega, by rw [Int.toNat_natCast]; exact le_lineN (by simp; omega)⟩, rept_chr]
theorem al_nat2 (l : List Nat) (h : l.length ≤ 500) : AL 1 (.tup (nat2 l)) := by
  refine ⟨by rw [nat2_len]; exact h, fun p hp => ?_⟩
  obtain ⟨c, _, rfl⟩ := List.mem_map.mp hp
  trivial
end Sw
namespace Sw.k43
theorem c_start (k : Nat) (ns : List Int) (hl : ns.length ≤ 63) : ∃ xs, callF prog G (k + 1) 13 [.imm (.lst (ns.map P.int))] = some (.lst xs, [.imm (.lst (ns.map P.int))]) ∧ WC xs := by
  refine ⟨_, wp_is (call_wp (fn := f__law_start) rfl rfl ?_), ns, 0, 0, 0, rfl, Nat.zero_le _⟩
  have e : cutP (ns.map P.int) none (some 63) = ns.map P.int := by
    rw [show (63 : Int) = ((63 : Nat) : Int) from rfl, cut_0n, List.take_of_length_le (by simpa using hl)]
  simp -implicitDefEqProofs [f__law_start, b__law_start, e]
  refine wp_comp (fun i acc e => acc = (ns.take i).map P.int ∧ ∃ x, e = [some (.imm (.lst (ns.map P.int))), x]) ⟨by simp, none, rfl⟩ (fun i p acc e hp hi => ?_) (fun acc e hi => ?_)
  · obtain ⟨rfl, x, rfl⟩ := hi
    obtain ⟨n, hn, rfl⟩ : ∃ n, ns[i]? = some n ∧ p = .int n := by
      rw [List.getElem?_map] at hp
      cases q : ns[i]? with
      | none => rw [q] at hp; cases hp
      | some n => rw [q] at hp; cases hp; exact ⟨n, rfl, rfl⟩
    have hlen : ((ns.take i).map P.int).length < line := lt_lineN (by simp; omega)
    simp only [List.length_map, List.length_take] at hlen
    simp -implicitDefEqProofs [stepCc, hlen]
    simp [List.take_add_one, List.getElem?_map, hn]
  · obtain ⟨rfl, x, rfl⟩ := hi
    rw [List.length_map, List.take_of_length_le (Nat.le_refl _)]
    have h5 : (5 : Nat) ≤ line := le_lineN (by omega)
    simp -implicitDefEqProofs [h5]
theorem c_fill (k : Nat) (xs : List P) (h : WC xs) : ∃ (xs' : List P) (n : Nat), callF prog G (k + 1) 14 [.lst xs] = some (.imm (.int n), [.lst xs']) ∧ WC xs' := by
  obtain ⟨ns, i, pool, t, rfl, hi⟩ := h
  have key : ∃ r, callF prog G (k + 1) 14 [.lst [.lst (ns.map P.int), .int i, .int pool, .int t, .int 20]] = some r ∧ ∃ (xs' : List P) (n : Nat), r = (.imm (.int n), [.lst xs']) ∧ WC xs' := by
    refine wp_all fun R hR => call_wp (fn := f__law_fill) rfl rfl ?_
    simp only [f__law_fill, b__law_fill]
    refine wp_seq (fun r => r = (.nx, [some (.lst [.lst (ns.map P.int), .int i, .int pool, .int (t + 1), .int 20]), none])) (fun R hR => ?_) fun r hr => ?_
    · simp -implicitDefEqProofs [atC, ixC]
      exact hR _ rfl
    subst hr
    refine wp_seq (fun r => ∃ z : Int, r = (.nx, [some (.lst [.lst (ns.map P.int), .int i, .int pool, .int (t + 1), .int 20]), some (.imm (.int z))])) (fun R hR => ?_) fun r hr => ?_
    · simp -implicitDefEqProofs [atC, ixC, so_mul, mulK]
      exact hR _ ⟨_, rfl⟩
    obtain ⟨z, rfl⟩ := hr
    refine wp_seq (fun r => (∃ (z : Nat) (j : Nat), j ≤ ns.length ∧ r = (.rt (.imm (.int z)), [some (.lst [.lst (ns.map P.int), .int j, .int pool, .int (t + 1), .int 20]), some (.imm (.int z))])) ∨
      ∃ (z : Int) (j : Nat), j ≤ ns.length ∧ r = (.nx, [some (.lst [.lst (ns.map P.int), .int j, .int pool, .int (t + 1), .int 20]), some (.imm (.int z))])) (fun R hR => ?_) fun r hr => ?_
    · by_cases hlt : i < ns.length
      · have hat : atP (ns.map P.int) (i : Int) = some (.int ns[i]) := by
          rw [at_nat (by simpa using hlt)]
          simp [hlt]
        have hpw : opSem .pow [.imm (.int 10), .imm (.int 18)] = some (.imm (.int 1000000000000000000)) := by
          simp only [opSem, int2]
          rw [if_pos (by decide)]
          rfl
        simp -implicitDefEqProofs [atC, ixC, hlt, hat]
        by_cases hneg : ns[i] < 0
        · simp -implicitDefEqProofs [hneg, hpw]
          by_cases hbig : (1000000000000000000 : Int) ≤ -1 - ns[i]
          · simp -implicitDefEqProofs [hbig]
            obtain ⟨z, hz⟩ := Int.eq_ofNat_of_zero_le (show 0 ≤ -1 - ns[i] by omega)
            exact hR _ (.inl ⟨z, i + 1, by omega, by rw [hz] <;> rfl⟩)
          · simp -implicitDefEqProofs [hbig]
            exact hR _ (.inr ⟨_, i + 1, by omega, rfl⟩)
        · simp -implicitDefEqProofs [hneg, hpw]
          by_cases hbig : (1000000000000000000 : Int) ≤ ns[i]
          · simp -implicitDefEqProofs [hbig]
            obtain ⟨z, hz⟩ := Int.eq_ofNat_of_zero_le (show 0 ≤ ns[i] by omega)
            exact hR _ (.inl ⟨z, i + 1, by omega, by rw [hz] <;> rfl⟩)
          · simp -implicitDefEqProofs [hbig]
            exact hR _ (.inr ⟨_, i + 1, by omega, rfl⟩)
      · simp -implicitDefEqProofs [atC, ixC, hlt]
        exact hR _ (.inr ⟨_, i, hi, rfl⟩)
    rcases hr with ⟨z, j, hj, rfl⟩ | ⟨z, j, hj, rfl⟩
    · simp -implicitDefEqProofs [asgTs, asgT]
      exact hR _ ⟨_, _, rfl, ns, j, pool, t + 1, rfl, hj⟩
    refine wp_seq (fun r => ∃ z : Int, r = (.nx, [some (.lst [.lst (ns.map P.int), .int j, .int pool, .int (t + 1), .int 20]), some (.imm (.int z))])) (fun R hR => ?_) fun r hr => ?_
    · by_cases he : ns = []
      · simp -implicitDefEqProofs [atC, ixC, he]
        exact hR _ ⟨_, by rw [he] <;> rfl⟩
      · have hm : ns.map P.int ≠ [] := by simpa using he
        have hl : 0 < ns.length := List.length_pos_iff.mpr he
        have hat : atP (ns.map P.int) (-1) = some (.int (ns[ns.length - 1]'(by omega))) := by
          rw [at_last hm]
          simp [show ns.length - 1 < ns.length by omega]
        by_cases hge : ns.length ≤ j
        · simp -implicitDefEqProofs [atC, ixC, he, hge, hat, so_mod]
          exact hR _ ⟨_, rfl⟩
        · simp -implicitDefEqProofs [atC, ixC, he, hge]
          exact hR _ ⟨_, rfl⟩
    obtain ⟨z, rfl⟩ := hr
    simp -implicitDefEqProofs [atC, ixC, so_mul, mulK, mulM, so_mod, so_fdiv, asgTs, asgT]
    obtain ⟨n, hn⟩ := fill_end ((z * 48271 + (↑t + 1) * 69621).fmod 2147483647) t
    exact hR _ ⟨_, n, by rw [hn] <;> rfl, ns, j, pool, t + 1, rfl, hj⟩
  obtain ⟨r, e, xs', n, rfl, hw⟩ := key
  exact ⟨xs', n, e, hw⟩
theorem c_take (k : Nat) (xs : List P) (m : Nat) (h : WC xs) (hm : 0 < m) (hm2 : m < 1000000) : ∃ (xs' : List P) (d : Nat), callF prog G (k + 2) 15 [.lst xs, .imm (.int m)] = some (.imm (.int d), [.lst xs', .imm (.int m)]) ∧ WC xs' ∧ d < m := by
  obtain ⟨ns, i, pool, t, rfl, hi⟩ := h
  have key : ∃ r, callF prog G (k + 1 + 1) 15 [.lst [.lst (ns.map P.int), .int i, .int pool, .int t, .int 20], .imm (.int m)] = some r ∧ ∃ (xs' : List P) (d : Nat), r = (.imm (.int d), [.lst xs', .imm (.int m)]) ∧ WC xs' ∧ d < m := by
    refine wp_all fun R hR => call_wp (fn := f__law_take) rfl rfl ?_
    simp only [f__law_take, b__law_take]
    refine wp_seq (fun r => ∃ (ns : List Int) (i pool t : Nat), i ≤ ns.length ∧ r = (.nx, [some (.lst [.lst (ns.map P.int), .int i, .int pool, .int t, .int 20]), some (.imm (.int m)), none])) (fun R hR => ?_) fun r hr => ?_
    · by_cases hlt : pool < m
      · obtain ⟨xs', n, e, ns', i', pool', t', rfl, hi'⟩ := c_fill k [.lst (ns.map P.int), .int i, .int pool, .int t, .int 20] ⟨ns, i, pool, t, rfl, hi⟩
        simp -implicitDefEqProofs [atC, ixC, hlt, e]
        exact hR _ ⟨ns', i', n, t', hi', rfl⟩
      · simp -implicitDefEqProofs [atC, ixC, hlt]
        exact hR _ ⟨ns, i, pool, t, hi, rfl⟩
    obtain ⟨ns, i, pool, t, hi, rfl⟩ := hr
    have h0 : ((m : Nat) : Int) ≠ 0 := by omega
    have e1 : ((pool : Nat) : Int).fmod (m : Int) = ((pool % m : Nat) : Int) := by
      rw [Int.fmod_eq_emod_of_nonneg _ (by omega)]
      exact (Int.natCast_emod pool m).symm
    have e2 : ((pool : Nat) : Int).fdiv (m : Int) = ((pool / m : Nat) : Int) := by
      rw [Int.fdiv_eq_ediv_of_nonneg _ (by omega)]
      exact (Int.natCast_ediv pool m).symm
    have h1 : ((m : Nat) : Int) ≠ 0 ∧ ((m : Nat) : Int).natAbs < 1073741824 := ⟨h0, by omega⟩
    simp -implicitDefEqProofs [atC, ixC, so_mod h0, so_fdiv h1, asgTs, asgT]
    exact hR _ ⟨_, pool % m, by rw [e1], ⟨ns, i, pool / m, t, by rw [e2], hi⟩, Nat.mod_lt _ hm⟩
  obtain ⟨r, e, xs', d, rfl, hw⟩ := key
  exact ⟨xs', d, e, hw⟩
theorem c_is_int (k : Nat) (v : P) : callF prog G (k + 1) 16 [.imm v] = some (.imm (.bl (isI v)), [.imm v]) := by
  refine wp_is (call_wp (fn := f__law_is_int) rfl rfl ?_)
  cases v <;> simp -implicitDefEqProofs [f__law_is_int, b__law_is_int, asgTs, asgT, isTy, isI]
theorem sp_flat (k n : Nat) (xs : List P) (v : P) (hw : WC xs) (hn : n ≤ 900) (hn8 : 8 ≤ n) (ht : ∀ ps, v ≠ .tup ps) (hs : ∀ s, v = .str s → s.length ≤ n) : ∃ xs' r, callF prog G (k + 3) 20 [.lst xs, .imm v] = some (.imm r, [.lst xs', .imm v]) ∧ WC xs' ∧ Sm (n + 1) 0 r := by
  have key : ∃ r, callF prog G (k + 2 + 1) 20 [.lst xs, .imm v] = some r ∧ ∃ xs' r', r = (.imm r', [.lst xs', .imm v]) ∧ WC xs' ∧ Sm (n + 1) 0 r' := by
    refine wp_all fun R hR => call_wp (fn := f__law_spoilt) rfl rfl ?_
    simp only [f__law_spoilt, b__law_spoilt]
    by_cases hstr : ∃ s, v = .str s
    · obtain ⟨s, rfl⟩ := hstr
      have hsl : s.length ≤ n := hs s rfl
      have hl : s.length ≤ line := le_lineN (by omega)
      have h10 : (10 : Nat) ≤ line := le_lineN (by omega)
      have hadd : opSem .add [.imm (.str s), .imm (.str [97])] = some (.imm (.str (s ++ [97]))) := so_adds (le_lineN (by simp; omega))
      obtain ⟨xs', dd, he, hw', hd⟩ := c_take k xs 10 hw (by omega) (by omega)
      have he : callF prog G (k + 2) 15 [.lst xs, .imm (.int 10)] = some (.imm (.int dd), [.lst xs', .imm (.int 10)]) := he
      simp -implicitDefEqProofs [isTy, hadd, so_slcS hl, h10, he]
      refine wp_at (by simpa using hd) fun r hr => ?_
      simp -implicitDefEqProofs [asgTs, asgT]
      refine hR _ ⟨xs', r, rfl, hw', ?_⟩
      have hcl := cut_len s (some 1) none
      simp only [List.mem_cons, List.not_mem_nil, or_false] at hr
      rcases hr with rfl | rfl | rfl | rfl | rfl | rfl | rfl | rfl | rfl | rfl <;> (refine sm_str ?_; first | (simp; done) | (simp; omega) | omega)
    · have hI : isTy v .str = false ∧ isTy v .tuple = false := by
        cases v <;> first | exact ⟨rfl, rfl⟩ | exact absurd ⟨_, rfl⟩ hstr | exact absurd rfl (ht _)
      have h7 : (7 : Nat) ≤ line := le_lineN (by omega)
      obtain ⟨xs', dd, he, hw', hd⟩ := c_take k xs 7 hw (by omega) (by omega)
      have he : callF prog G (k + 2) 15 [.lst xs, .imm (.int 7)] = some (.imm (.int dd), [.lst xs', .imm (.int 7)]) := he
      simp -implicitDefEqProofs [hI.1, hI.2, h7, he]
      refine wp_at (by simpa using hd) fun r hr => ?_
      simp -implicitDefEqProofs [asgTs, asgT]
      refine hR _ ⟨xs', r, rfl, hw', ?_⟩
      simp only [List.mem_cons, List.not_mem_nil, or_false] at hr
      rcases hr with rfl | rfl | rfl | rfl | rfl | rfl | rfl <;> trivial
  obtain ⟨r, e, xs', r', rfl, h1, h2⟩ := key
  exact ⟨xs', r', e, h1, h2⟩
theorem c_spoilt : ∀ (d k n : Nat) (xs : List P) (v : P), WC xs → n ≤ 900 → 8 ≤ n → Sm n d v → ∃ xs' r, callF prog G (k + 3 + d) 20 [.lst xs, .imm v] = some (.imm r, [.lst xs', .imm v]) ∧ WC xs' ∧ Sm (n + 1) (d + 2) r := by
  intro d
  induction d with
  | zero =>
    intro k n xs v hw hn hn8 hs
    obtain ⟨xs', r, h1, h2, h3⟩ := sp_flat k n xs v hw hn hn8 (fun ps e => by subst e; exact hs) (fun s e => by subst e; exact hs)
    exact ⟨xs', r, h1, h2, h3.ups 2⟩
  | succ d ih =>
    intro k n xs v hw hn hn8 hs
    by_cases ht : ∃ ps, v = .tup ps
    · obtain ⟨ps, rfl⟩ := ht
      obtain ⟨hl, hp⟩ := hs
      have hp1 : ∀ p ∈ ps, Sm (n + 1) (d + 2) p := fun p h => ((hp p h).mono (Nat.le_succ n)).ups 2
      have key : ∃ r, callF prog G (k + 3 + d + 1) 20 [.lst xs, .imm (.tup ps)] = some r ∧ ∃ xs' r', r = (.imm r', [.lst xs', .imm (.tup ps)]) ∧ WC xs' ∧ Sm (n + 1) (d + 1 + 2) r' := by
        refine wp_all fun R hR => call_wp (fn := f__law_spoilt) rfl rfl ?_
        simp only [f__law_spoilt, b__law_spoilt]
        refine wp_seq (fun r => r = (.nx, [some (.lst xs), some (.imm (.tup ps)), none])) (fun R hR => ?_) fun r hr => ?_
        · simp -implicitDefEqProofs [isTy]
          exact hR _ rfl
        subst hr
        refine wp_seq (fun r => r = (.nx, [some (.lst xs), some (.imm (.tup ps)), none])) (fun R hR => ?_) fun r hr => ?_
        · simp -implicitDefEqProofs [isTy]
          exact hR _ rfl
        subst hr
        have h8 : (8 : Nat) ≤ line := le_lineN (by omega)
        have h2 : (2 : Nat) ≤ line := le_lineN (by omega)
        have h1 : (1 : Nat) ≤ line := le_lineN (by omega)
        have hc1 := cut_len ps (some 1) none
        have hc2 := cut_len ps none (some (-1))
        have hc3 := cut_len ps (some (-1)) none
        have hc4 : (cutP ps (some (-1)) none).length ≤ 1 := by
          unfold cutP
          rw [List.length_take, List.length_drop]
          show min (ps.length - sIxP ps.length 0 (some (-1))) _ ≤ 1
          unfold sIxP
          simp only
          rw [if_pos (by decide)]
          omega
        have ha1 : opSem .add [.imm (.tup ps), .imm (.tup (cutP ps (some (-1)) none))] = some (.imm (.tup (ps ++ cutP ps (some (-1)) none))) := so_addt (le_lineN (by omega))
        have ha2 : opSem .add [.imm (.tup ps), .imm (.tup [.tup [.int 0, .int 0]])] = some (.imm (.tup (ps ++ [.tup [.int 0, .int 0]]))) := so_addt (le_lineN (by simp; omega))
        have hli : opSem .list [.imm (.tup ps)] = some (.lst ps) := so_lisT (le_lineN (by omega))
        have fin : ∀ r, r ∈ [P.lst [], P.lst []] ∨ r ∈ [P.tup (cutP ps (some 1) none), .tup (cutP ps none (some (-1))), .tup (ps ++ cutP ps (some (-1)) none), .tup ps.reverse, .lst ps, .tup (ps ++ [.tup [.int 0, .int 0]]), .tup [], .tup [.int 1, .int 0]] → Sm (n + 1) (d + 1 + 2) r := fun r hr => by
          simp only [List.mem_cons, List.not_mem_nil, or_false] at hr
          have z : ∀ p ∈ [P.int 1, P.int 0], Sm (n + 1) (d + 2) p := fun p h => by
            simp only [List.mem_cons, List.not_mem_nil, or_false] at h
            rcases h with rfl | rfl <;> exact sm_int
          have z2 : Sm (n + 1) (d + 2) (.tup [.int 0, .int 0]) := sm_tup (by simp; omega) fun p h => by
            simp only [List.mem_cons, List.not_mem_nil, or_false] at h
            rcases h with rfl | rfl <;> exact sm_int
          rcases hr with (rfl | rfl) | rfl | rfl | rfl | rfl | rfl | rfl | rfl | rfl
          · exact sm_lst (by simp) fun p h => nomatch h
          · exact sm_lst (by simp) fun p h => nomatch h
          · exact sm_tup (by omega) fun p h => hp1 p (cut_mem h)
          · exact sm_tup (by omega) fun p h => hp1 p (cut_mem h)
          · exact sm_tup (by rw [List.length_append]; omega) fun p h => (List.mem_append.mp h).elim (hp1 p) fun h => hp1 p (cut_mem h)
          · exact sm_tup (by rw [List.length_reverse]; omega) fun p h => hp1 p (List.mem_reverse.mp h)
          · exact sm_lst (by omega) hp1
          · exact sm_tup (by simp; omega) fun p h => (List.mem_append.mp h).elim (hp1 p) fun h => by rw [List.mem_singleton.mp h]; exact z2
          · exact sm_tup (by simp) fun p h => nomatch h
          · exact sm_tup (by simp; omega) z
        refine wp_seq (fun r => (∃ xs' r', WC xs' ∧ Sm (n + 1) (d + 1 + 2) r' ∧ r = (.rt (.imm r'), [some (.lst xs'), some (.imm (.tup ps)), none])) ∨ ∃ xs', WC xs' ∧ ps ≠ [] ∧ r = (.nx, [some (.lst xs'), some (.imm (.tup ps)), none])) (fun R hR => ?_) fun r hr => ?_
        · by_cases he : ps = []
          · obtain ⟨xs', dd, e8, hw', hd⟩ := c_take (k + d + 1) xs 8 hw (by omega) (by omega)
            have e8 : callF prog G (k + 3 + d) 15 [.lst xs, .imm (.int 8)] = some (.imm (.int dd), [.lst xs', .imm (.int 8)]) := by
              rw [show k + 3 + d = k + d + 1 + 2 by omega]; exact e8
            subst he
            simp -implicitDefEqProofs only [List.nil_append] at ha1 ha2
            simp -implicitDefEqProofs [ha1, ha2, hli, h8, h2, h1, e8]
            refine wp_at (by simpa using hd) fun r hr => ?_
            try simp -implicitDefEqProofs
            exact hR _ (.inl ⟨xs', r, hw', fin r (.inr (by simpa using hr)), rfl⟩)
          · obtain ⟨ys, d5, e5, hw5, hd5⟩ := c_take (k + d + 1) xs 5 hw (by omega) (by omega)
            have e5 : callF prog G (k + 3 + d) 15 [.lst xs, .imm (.int 5)] = some (.imm (.int d5), [.lst ys, .imm (.int 5)]) := by
              rw [show k + 3 + d = k + d + 1 + 2 by omega]; exact e5
            obtain ⟨xs', dd, e8, hw', hd⟩ := c_take (k + d + 1) ys 8 hw5 (by omega) (by omega)
            have e8 : callF prog G (k + 3 + d) 15 [.lst ys, .imm (.int 8)] = some (.imm (.int dd), [.lst xs', .imm (.int 8)]) := by
              rw [show k + 3 + d = k + d + 1 + 2 by omega]; exact e8
            by_cases h0 : d5 = 0
            · subst h0
              simp -implicitDefEqProofs [he, ha1, ha2, hli, h8, h2, h1, e5, e8]
              refine wp_at (by simpa using hd) fun r hr => ?_
              try simp -implicitDefEqProofs
              exact hR _ (.inl ⟨xs', r, hw', fin r (.inr hr), rfl⟩)
            · simp -implicitDefEqProofs [he, h0, e5]
              exact hR _ (.inr ⟨ys, hw5, he, rfl⟩)
        rcases hr with ⟨xs', r', hw', hs', rfl⟩ | ⟨ys, hw', he, rfl⟩
        · simp -implicitDefEqProofs [asgTs, asgT]
          exact hR _ ⟨xs', r', rfl, hw', hs'⟩
        have hlp : 0 < ps.length := List.length_pos_iff.mpr he
        obtain ⟨zs, kk, ek, hwk, hdk⟩ := c_take (k + d + 1) ys ps.length hw' hlp (by omega)
        have ek : callF prog G (k + 3 + d) 15 [.lst ys, .imm (.int ps.length)] = some (.imm (.int kk), [.lst zs, .imm (.int ps.length)]) := by
          rw [show k + 3 + d = k + d + 1 + 2 by omega]; exact ek
        have hgk : atP ps (kk : Int) = some ps[kk] := by rw [at_nat hdk, List.getElem?_eq_getElem hdk]
        obtain ⟨us, r1, e17, hwu, hs1⟩ := ih k n zs ps[kk] hwk hn hn8 (hp _ (List.getElem_mem hdk))
        have hcA := cut_len ps none (some (kk : Int))
        have hcB := cut_len ps (some ((kk : Int) + 1)) none
        have hA : opSem .add [.imm (.tup (cutP ps none (some (kk : Int)))), .imm (.tup [r1])] = some (.imm (.tup (cutP ps none (some (kk : Int)) ++ [r1]))) := so_addt (le_lineN (by simp; omega))
        have hB : opSem .add [.imm (.tup (cutP ps none (some (kk : Int)) ++ [r1])), .imm (.tup (cutP ps (some ((kk : Int) + 1)) none))] = some (.imm (.tup (cutP ps none (some (kk : Int)) ++ [r1] ++ cutP ps (some ((kk : Int) + 1)) none))) := so_addt (le_lineN (by simp; omega))
        have hlen : (cutP ps none (some (kk : Int)) ++ [r1] ++ cutP ps (some ((kk : Int) + 1)) none).length ≤ n + 1 := by
          have e1 : cutP ps none (some (kk : Int)) = ps.take kk := cut_0n ps kk
          have e2 : cutP ps (some ((kk : Int) + 1)) none = ps.drop (kk + 1) := cut_n0 ps (kk + 1)
          rw [e1, e2]
          simp
          omega
        simp -implicitDefEqProofs only [List.append_assoc] at hB hlen
        simp -implicitDefEqProofs [ek, hgk, e17, hA, hB, h1, asgTs, asgT]
        refine hR _ ⟨us, _, rfl, hwu, sm_tup hlen fun p h => ?_⟩
        rcases List.mem_append.mp h with h | h
        · exact hp1 p (cut_mem h)
        · rcases List.mem_cons.mp h with h | h
          · rw [h]; exact hs1
          · exact hp1 p (cut_mem h)
      obtain ⟨r, e, xs', r', rfl, h1, h2⟩ := key
      exact ⟨xs', r', e, h1, h2⟩
    · obtain ⟨xs', r, h1, h2, h3⟩ := sp_flat (k + (d + 1)) n xs v hw hn hn8 (fun ps e => ht ⟨ps, e⟩) (fun s e => by subst e; exact hs)
      refine ⟨xs', r, ?_, h2, ?_⟩
      · rw [show k + 3 + (d + 1) = k + (d + 1) + 3 by omega]; exact h1
      · have := h3.ups (d + 1 + 2)
        rwa [Nat.zero_add] at this
theorem c_bent (k n d t : Nat) (xs : List P) (v : P) (hw : WC xs) (hn : n ≤ 800) (hn8 : 8 ≤ n) (hd : d ≤ 10) (hs : Sm n d v) : ∃ xs' r, callF prog G (k + 50) 21 [.lst xs, .imm v, .imm (.int t)] = some (.imm r, [.lst xs', .imm v, .imm (.int t)]) ∧ WC xs' ∧ Sm (n + 2) (d + 4) r := by
  have key : ∃ r, callF prog G (k + 49 + 1) 21 [.lst xs, .imm v, .imm (.int t)] = some r ∧ ∃ xs' r', r = (.imm r', [.lst xs', .imm v, .imm (.int t)]) ∧ WC xs' ∧ Sm (n + 2) (d + 4) r' := by
    refine wp_all fun R hR => call_wp (fn := f__law_bent) rfl rfl ?_
    simp only [f__law_bent, b__law_bent]
    obtain ⟨ys, d2, e2, hw2, hd2⟩ := c_take (k + 47) xs 2 hw (by omega) (by omega)
    have e2 : callF prog G (k + 49) 15 [.lst xs, .imm (.int 2)] = some (.imm (.int d2), [.lst ys, .imm (.int 2)]) := e2
    obtain ⟨m, hm, hm2⟩ : ∃ m : Nat, bI (decide (0 < t)) * (1 + (d2 : Int)) = (m : Int) ∧ m ≤ 2 := by
      by_cases h : 0 < t
      · refine ⟨1 + d2, ?_, by omega⟩
        rw [decide_eq_true h]
        show 1 * (1 + (d2 : Int)) = _
        omega
      · refine ⟨0, ?_, by omega⟩
        rw [decide_eq_false h]
        show 0 * (1 + (d2 : Int)) = _
        omega
    have hmul : opSem .mul [.imm (.int (bI (decide (0 < t)))), .imm (.int (1 + (d2 : Int)))] = some (.imm (.int m)) := by
      rw [so_mul (mul_l (by unfold bI; split <;> decide)), hm]
    simp -implicitDefEqProofs [e2, hmul, it_rng1 (show m ≤ 1000000 by omega)]
    refine wp_for (fun i e => ∃ (zs : List P) (u : P) (x : Option D), WC zs ∧ Sm (n + i) (d + 2 * i) u ∧ e = [some (.lst zs), some (.imm u), some (.imm (.int t)), x]) ⟨ys, v, none, hw2, hs, rfl⟩ (fun i p e hp hi => ?_) (fun e hi => ?_)
    · obtain ⟨zs, u, x, hz, hu, rfl⟩ := hi
      obtain ⟨hib, rfl⟩ := rng_get hp
      obtain ⟨us, r, e17, hwu, hsr⟩ := c_spoilt (d + 2 * i) (k + 46 - (d + 2 * i)) (n + i) zs u hz (by omega) (by omega) hu
      have e17 : callF prog G (k + 49) 20 [.lst zs, .imm u] = some (.imm r, [.lst us, .imm u]) := by
        rw [show k + 49 = k + 46 - (d + 2 * i) + 3 + (d + 2 * i) by omega]; exact e17
      simp -implicitDefEqProofs [stepFf, e17]
      exact ⟨hwu, hsr⟩
    · obtain ⟨zs, u, x, hz, hu, rfl⟩ := hi
      rw [List.length_map, List.length_range] at hu
      simp -implicitDefEqProofs [asgTs, asgT]
      refine hR _ ⟨zs, u, rfl, hz, ?_⟩
      have := (hu.mono (show n + m ≤ n + 2 by omega)).ups (4 - 2 * m)
      rwa [show d + 2 * m + (4 - 2 * m) = d + 4 by omega] at this
  obtain ⟨r, e, xs', r', rfl, h1, h2⟩ := key
  exact ⟨xs', r', e, h1, h2⟩
theorem al_flat (k : Nat) (v : P) (h : AL 0 v) : callF prog G (k + 1) 17 [.imm v, .imm v] = some (.imm (.bl true), [.imm v, .imm v]) := by
  refine wp_is (call_wp (fn := f__law_alike) rfl rfl ?_)
  cases v <;> first
    | exact h.elim
    | simp -implicitDefEqProofs [f__law_alike, b__law_alike, isTy, so_neB, asgTs, asgT]
theorem c_alike : ∀ (d k : Nat) (v : P), AL d v → callF prog G (k + 1 + d) 17 [.imm v, .imm v] = some (.imm (.bl true), [.imm v, .imm v]) := by
  intro d
  induction d with
  | zero => exact fun k v h => al_flat k v h
  | succ d ih =>
    intro k v h
    by_cases ht : ∃ ps, v = .tup ps
    · obtain ⟨ps, rfl⟩ := ht
      obtain ⟨hl, hp⟩ := h
      show callF prog G (k + 1 + d + 1) 17 _ = _
      refine wp_is (call_wp (fn := f__law_alike) rfl rfl ?_)
      simp -implicitDefEqProofs [f__law_alike, b__law_alike, isTy, it_rng1 (show ps.length ≤ 1000000 by omega)]
      refine wp_comp (fun i acc e => acc = (List.replicate i true).map P.bl ∧ e = [some (.imm (.tup ps)), some (.imm (.tup ps)), none]) ⟨rfl, rfl⟩ (fun i p acc e hp2 hi => ?_) (fun acc e hi => ?_)
      · obtain ⟨rfl, rfl⟩ := hi
        obtain ⟨hil, rfl⟩ := rng_get hp2
        have hat : atP ps (i : Int) = some ps[i] := by rw [at_nat hil, List.getElem?_eq_getElem hil]
        have hih := ih k ps[i] (hp _ (List.getElem_mem hil))
        have hlen : ((List.replicate i true).map P.bl).length < line := lt_lineN (by simp; omega)
        simp only [List.length_map, List.length_replicate] at hlen
        simp -implicitDefEqProofs [-List.map_replicate, stepCc, hat, hih, hlen]
        rw [List.replicate_succ', List.map_append] <;> rfl
      · obtain ⟨rfl, rfl⟩ := hi
        simp -implicitDefEqProofs [-List.map_replicate, so_all, all_true, asgTs, asgT]
    · have h0 : AL 0 v := by cases v <;> first | trivial | exact h.elim | exact absurd ⟨_, rfl⟩ ht
      have := al_flat (k + (d + 1)) v h0
      rwa [show k + (d + 1) + 1 = k + 1 + (d + 1) by omega] at this
theorem c_word (k : Nat) (xs : List P) (A : List Nat) (m : Nat) (hw : WC xs) (hA : 0 < A.length) (hA2 : A.length ≤ 500) (hm : m ≤ 500) : ∃ (xs' : List P) (w : List Nat), callF prog G (k + 3) 19 [.lst xs, .imm (.str A), .imm (.int m)] = some (.imm (.str w), [.lst xs', .imm (.str A), .imm (.int m)]) ∧ WC xs' ∧ w.length ≤ m ∧ ∀ c ∈ w, c ∈ A := by
  have key : ∃ r, callF prog G (k + 2 + 1) 19 [.lst xs, .imm (.str A), .imm (.int m)] = some r ∧ ∃ (xs' : List P) (w : List Nat), r = (.imm (.str w), [.lst xs', .imm (.str A), .imm (.int m)]) ∧ WC xs' ∧ w.length ≤ m ∧ ∀ c ∈ w, c ∈ A := by
    refine wp_all fun R hR => call_wp (fn := f__law_word) rfl rfl ?_
    have hAl : A.length ≤ line := le_lineN (by omega)
    obtain ⟨ys, n, e1, hy, hn⟩ := c_take k xs (m + 1) hw (by omega) (by omega)
    have e1 : callF prog G (k + 2) 15 [.lst xs, .imm (.int ((m : Int) + 1))] = some (.imm (.int n), [.lst ys, .imm (.int ((m : Int) + 1))]) := e1
    simp -implicitDefEqProofs [f__law_word, b__law_word, rcvOk, e1, it_rng1 (show n ≤ 1000000 by omega)]
    refine wp_comp (fun i acc e => ∃ (zs : List P) (w : List Nat), WC zs ∧ w.length = i ∧ (∀ c ∈ w, c ∈ A) ∧ acc = (w.map fun c => [c]).map P.str ∧ e = [some (.lst zs), some (.imm (.str A)), some (.imm (.int m)), none]) ⟨ys, [], hy, rfl, fun c h => (nomatch h), rfl, rfl⟩ (fun i p acc e hp hi => ?_) (fun acc e hi => ?_)
    · obtain ⟨zs, w, hz, hwl, hwm, rfl, rfl⟩ := hi
      obtain ⟨hin, rfl⟩ := rng_get hp
      obtain ⟨us, d, e2, hu, hd⟩ := c_take k zs A.length hz hA (by omega)
      have e2 : callF prog G (k + 2) 15 [.lst zs, .imm (.int A.length)] = some (.imm (.int d), [.lst us, .imm (.int A.length)]) := e2
      have hlen : ((w.map fun c => [c]).map P.str).length < line := lt_lineN (by simp; omega)
      simp only [List.length_map] at hlen
      have hat : atP A (d : Int) = some A[d] := by rw [at_nat hd, List.getElem?_eq_getElem hd]
      simp -implicitDefEqProofs [-List.map_map, stepCc, so_lenS hAl, e2, so_idxS hAl, hat, hlen]
      refine ⟨us, hu, w ++ [A[d]], by simp [hwl], fun c h => ?_, by simp, rfl⟩
      rcases List.mem_append.mp h with h | h
      · exact hwm c h
      · rw [List.mem_singleton.mp h]; exact List.getElem_mem hd
    · obtain ⟨zs, w, hz, hwl, hwm, rfl, rfl⟩ := hi
      rw [List.length_map, List.length_range] at hwl
      have hs : (w.map fun c => [c]).flatten = w := by
        clear hwl hwm
        induction w with
        | nil => rfl
        | cons c w ih => rw [List.map_cons, List.flatten_cons, ih] <;> rfl
      have hj : opSem .join [.imm (.str []), .lst ((w.map fun c => [c]).map P.str)] = some (.imm (.str w)) := by
        rw [so_join _ ?_, hs]
        have : (((w.map fun c => [c]).map List.length)).sum = w.length := by rw [← List.length_flatten, hs]
        rw [this]
        exact le_lineN (by omega)
      simp -implicitDefEqProofs [-List.map_map, hj, asgTs, asgT]
      exact hR _ ⟨zs, w, rfl, hz, by omega, hwm⟩
  obtain ⟨r, e, xs', w, rfl, h1, h2, h3⟩ := key
  exact ⟨xs', w, e, h1, h2, h3⟩
end Sw.k43
/-! division of rows of bits, plain -/
namespace Sw.k43
def zs (n : Nat) : List Bool := List.replicate n false
/-- onto the head of a row -/
def xh : List Bool → List Bool → List Bool
  | [], _ => []
  | a :: l, [] => a :: l
  | a :: l, b :: d => (a ^^ b) :: xh l d
@[simp] theorem xh_nil (d : List Bool) : xh [] d = [] := by cases d <;> rfl
@[simp] theorem xh_nilR (l : List Bool) : xh l [] = l := by cases l <;> rfl
@[simp] theorem xh_cons (a b : Bool) (l d : List Bool) : xh (a :: l) (b :: d) = (a ^^ b) :: xh l d := rfl
@[simp] theorem xh_len : ∀ (l d : List Bool), (xh l d).length = l.length
  | [], d => by simp
  | a :: l, [] => rfl
  | a :: l, b :: d => by simp [xh_len l d]
theorem xh_take : ∀ (l d : List Bool) (n : Nat), (xh l d).take n = xh (l.take n) d
  | [], d, n => by simp
  | a :: l, [], n => by simp
  | a :: l, b :: d, 0 => by simp
  | a :: l, b :: d, n + 1 => by simp [xh_take l d n]
def addAt : List Bool → Nat → List Bool → List Bool
  | l, _, [] => l
  | l, s, x :: d => addAt (l.set s (l.getD s false ^^ x)) (s + 1) d
theorem addAt_cons (a : Bool) : ∀ (d l : List Bool) (s : Nat), addAt (a :: l) (s + 1) d = a :: addAt l s d
  | [], l, s => rfl
  | x :: d, l, s => by
    show addAt ((a :: l).set (s + 1) ((a :: l).getD (s + 1) false ^^ x)) (s + 2) d = a :: addAt (l.set s (l.getD s false ^^ x)) (s + 1) d
    rw [List.set_cons_succ, addAt_cons a d]
    simp
theorem addAt_nil : ∀ (d : List Bool) (s : Nat), addAt [] s d = []
  | [], s => rfl
  | x :: d, s => by
    show addAt (([] : List Bool).set s _) (s + 1) d = []
    rw [List.set_nil]
    exact addAt_nil d (s + 1)
theorem addAt_zero : ∀ (l d : List Bool), addAt l 0 d = xh l d
  | [], d => by simp [addAt_nil]
  | a :: l, [] => rfl
  | a :: l, b :: d => by
    show addAt ((a :: l).set 0 ((a :: l).getD 0 false ^^ b)) 1 d = (a ^^ b) :: xh l d
    rw [List.set_cons_zero, addAt_cons, addAt_zero l d]
    rfl
theorem addAt_len : ∀ (d l : List Bool) (s : Nat), (addAt l s d).length = l.length
  | [], l, s => rfl
  | x :: d, l, s => by
    show (addAt (l.set s _) (s + 1) d).length = _
    rw [addAt_len d, List.length_set]
/-- the long division, m steps left -/
def redF (d : List Bool) (r : Nat) : Nat → List Bool → List Bool
  | 0, l => l
  | m + 1, l => redF d r m (if l.getD (m + r) false then addAt l m d else l)
theorem redF_len (d : List Bool) (r : Nat) : ∀ (m : Nat) (l : List Bool), (redF d r m l).length = l.length
  | 0, l => rfl
  | m + 1, l => by
    show (redF d r m _).length = _
    rw [redF_len d r m]
    split
    · exact addAt_len ..
    · rfl
theorem redF_cons (d : List Bool) (r : Nat) (a : Bool) : ∀ (m : Nat) (l : List Bool), redF d r (m + 1) (a :: l) = (if (a :: redF d r m l).getD r false then xh (a :: redF d r m l) d else a :: redF d r m l)
  | 0, l => by
    show redF d r 0 (if (a :: l).getD (0 + r) false then addAt (a :: l) 0 d else a :: l) = _
    rw [addAt_zero, Nat.zero_add]
    rfl
  | m + 1, l => by
    show redF d r (m + 1) (if (a :: l).getD (m + 1 + r) false then addAt (a :: l) (m + 1) d else a :: l) = _
    have e : (if (a :: l).getD (m + 1 + r) false then addAt (a :: l) (m + 1) d else a :: l) = a :: (if l.getD (m + r) false then addAt l m d else l) := by
      rw [addAt_cons, show m + 1 + r = (m + r) + 1 by omega, List.getD_cons_succ]
      split <;> rfl
    rw [e, redF_cons d r a m]
    rfl
def mv (d v : List Bool) : List Bool := xh (false :: v.dropLast) (if v.getLastD false then d else [])
def res (d : List Bool) (r : Nat) : List Bool → List Bool
  | [] => zs r
  | a :: l => xh (mv d (res d r l)) [a]
theorem mv_len {d v : List Bool} {r : Nat} (h : v.length = r) (h0 : 0 < r) : (mv d v).length = r := by
  unfold mv
  rw [xh_len, List.length_cons, List.length_dropLast]
  omega
theorem res_len {d : List Bool} {r : Nat} (h0 : 0 < r) : ∀ l : List Bool, (res d r l).length = r
  | [] => List.length_replicate ..
  | a :: l => by
    show (xh _ _).length = r
    rw [xh_len]
    exact mv_len (res_len h0 l) h0
theorem zs_succ (n : Nat) : zs (n + 1) = false :: zs n := rfl
theorem zs_snoc : ∀ n : Nat, zs (n + 1) = zs n ++ [false]
  | 0 => rfl
  | n + 1 => by
    show false :: zs (n + 1) = (false :: zs n) ++ [false]
    rw [zs_snoc n]
    rfl
theorem res_short {d : List Bool} {r : Nat} : ∀ l : List Bool, l.length ≤ r → res d r l = l ++ zs (r - l.length)
  | [], _ => rfl
  | a :: l, h => by
    rw [List.length_cons] at h
    show xh (mv d (res d r l)) [a] = _
    rw [res_short l (by omega)]
    obtain ⟨n, hn⟩ : ∃ n, r - l.length = n + 1 := ⟨r - l.length - 1, by omega⟩
    rw [hn, zs_snoc, ← List.append_assoc]
    unfold mv
    rw [List.dropLast_concat]
    have : (l ++ zs n ++ [false]).getLastD false = false := by simp [List.getLastD_eq_getLast?]
    rw [this]
    simp only [Bool.false_eq_true, if_false, xh_nilR, xh_cons, Bool.false_xor, List.length_cons, List.cons_append]
    rw [show r - (l.length + 1) = n by omega]
theorem redF_res {d : List Bool} {r : Nat} (h0 : 0 < r) : ∀ (l : List Bool) (m : Nat), l.length = m + r → (redF d r m l).take r = res d r l
  | l, 0, h => by
    show l.take r = _
    have hl : l.length = r := by omega
    rw [List.take_of_length_le (by omega), res_short l (by omega), show r - l.length = 0 by omega]
    simp [zs]
  | [], m + 1, h => by simp at h; omega
  | a :: l, m + 1, h => by
    rw [redF_cons]
    have h' : l.length = m + r := by rw [List.length_cons] at h; omega
    have ih := redF_res (d := d) h0 l m h'
    have hl := redF_len d r m l
    show _ = xh (mv d (res d r l)) [a]
    rw [← ih]
    generalize redF d r m l = t at *
    obtain ⟨q, rfl⟩ : ∃ q, r = q + 1 := ⟨r - 1, by omega⟩
    have e1 : (a :: t).getD (q + 1) false = (t.take (q + 1)).getLastD false := by
      rw [List.getD_cons_succ, List.getLastD_eq_getLast?, List.getLast?_eq_getElem?, List.length_take, Nat.min_eq_left (by omega), List.getElem?_take_of_lt (by omega), List.getD_eq_getElem?_getD]
      congr 1
    have e2 : (a :: t).take (q + 1) = a :: (t.take (q + 1)).dropLast := by
      rw [List.take_succ_cons, List.dropLast_eq_take, List.take_take, List.length_take]
      congr 2
      omega
    have e3 : ∀ (w D : List Bool), xh (xh (false :: w) D) [a] = xh (a :: w) D := fun w D => by
      cases D with
      | nil => simp
      | cons x D => simp [Bool.xor_comm]
    unfold mv
    rw [e3, ← e2, e1]
    split
    · rw [xh_take]
    · rw [xh_nilR]
/-! ### it is linear -/
def xl (u v : List Bool) : List Bool := List.zipWith (fun a b => a ^^ b) u v
@[simp] theorem xl_nil (v : List Bool) : xl [] v = [] := rfl
@[simp] theorem xl_cons (a b : Bool) (u v : List Bool) : xl (a :: u) (b :: v) = (a ^^ b) :: xl u v := rfl
theorem xl_len {u v : List Bool} (h : u.length = v.length) : (xl u v).length = u.length := by
  unfold xl
  rw [List.length_zipWith]
  omega
theorem xh_xl : ∀ (u v a b : List Bool), u.length = v.length → a.length = b.length → xh (xl u v) (xl a b) = xl (xh u a) (xh v b)
  | [], _, a, b, _, _ => by simp
  | x :: u, [], a, b, h, _ => by simp at h
  | x :: u, y :: v, [], [], _, _ => by simp
  | x :: u, y :: v, a :: p, [], _, h => by simp at h
  | x :: u, y :: v, [], b :: q, _, h => by simp at h
  | x :: u, y :: v, a :: p, b :: q, h, h' => by
    simp only [xl_cons, xh_cons]
    rw [xh_xl u v p q (by simpa using h) (by simpa using h')]
    congr 1
    cases x <;> cases y <;> cases a <;> cases b <;> rfl
theorem xl_self : ∀ d : List Bool, xl d d = zs d.length
  | [] => rfl
  | a :: d => by
    rw [xl_cons, xl_self d, Bool.xor_self]
    rfl
theorem xl_zs : ∀ (d : List Bool) (n : Nat), d.length = n → xl d (zs n) = d
  | [], _, _ => rfl
  | a :: d, 0, h => by simp at h
  | a :: d, n + 1, h => by rw [zs_succ, xl_cons, xl_zs d n (by simpa using h), Bool.xor_false]
theorem xl_comm : ∀ u v : List Bool, xl u v = xl v u
  | [], [] => rfl
  | [], _ :: _ => rfl
  | _ :: _, [] => rfl
  | a :: u, b :: v => by rw [xl_cons, xl_cons, xl_comm u v, Bool.xor_comm]
theorem zs_xl (d : List Bool) (n : Nat) (h : d.length = n) : xl (zs n) d = d := by rw [xl_comm, xl_zs d n h]
theorem xh_zs : ∀ (u : List Bool) (n : Nat), xh u (zs n) = u
  | [], _ => by simp
  | a :: u, 0 => rfl
  | a :: u, n + 1 => by rw [zs_succ, xh_cons, xh_zs u n, Bool.xor_false]
theorem mv_lin {d u v : List Bool} (h : u.length = v.length) : mv d (xl u v) = xl (mv d u) (mv d v) := by
  unfold mv
  have e1 : false :: (xl u v).dropLast = xl (false :: u.dropLast) (false :: v.dropLast) := by
    rw [xl_cons]
    congr 1
    unfold xl
    rw [List.dropLast_eq_take, List.dropLast_eq_take, List.dropLast_eq_take, List.take_zipWith, List.length_zipWith, h, Nat.min_self]
  have e2 : (xl u v).getLastD false = (u.getLastD false ^^ v.getLastD false) := by
    rcases List.eq_nil_or_concat u with rfl | ⟨u', a, rfl⟩
    · have : v = [] := List.eq_nil_of_length_eq_zero h.symm
      subst this
      rfl
    · rcases List.eq_nil_or_concat v with rfl | ⟨v', b, rfl⟩
      · simp at h
      · have hl : u'.length = v'.length := by simpa using h
        rw [List.concat_eq_append, List.concat_eq_append]
        have : xl (u' ++ [a]) (v' ++ [b]) = xl u' v' ++ [a ^^ b] := by
          unfold xl
          rw [List.zipWith_append hl]
          rfl
        rw [this]
        simp [List.getLastD_eq_getLast?]
  rw [e1, e2]
  have hl : (false :: u.dropLast).length = (false :: v.dropLast).length := by simp [h]
  cases u.getLastD false <;> cases v.getLastD false
  · exact (xh_xl _ _ [] [] hl rfl)
  · have := xh_xl _ _ (zs d.length) d hl (List.length_replicate ..)
    rw [zs_xl d _ rfl, xh_zs] at this
    simpa using this
  · have := xh_xl _ _ d (zs d.length) hl (List.length_replicate ..).symm
    rw [xl_zs d _ rfl, xh_zs] at this
    simpa using this
  · have := xh_xl _ _ d d hl rfl
    rw [xl_self, xh_zs] at this
    simp only [Bool.xor_self, Bool.false_eq_true, if_false, if_true, xh_nilR]
    exact this
theorem res_lin {d : List Bool} {r : Nat} (h0 : 0 < r) : ∀ u v : List Bool, u.length = v.length → res d r (xl u v) = xl (res d r u) (res d r v)
  | [], v, h => by
    have : v = [] := List.eq_nil_of_length_eq_zero h.symm
    subst this
    show zs r = xl (zs r) (zs r)
    rw [xl_self]
    simp [zs]
  | a :: u, [], h => by simp at h
  | a :: u, b :: v, h => by
    have h : u.length = v.length := by simpa using h
    show xh (mv d (res d r (xl u v))) [a ^^ b] = xl (xh (mv d (res d r u)) [a]) (xh (mv d (res d r v)) [b])
    rw [res_lin h0 u v h, mv_lin (by rw [res_len h0, res_len h0])]
    exact xh_xl _ _ [a] [b] (by rw [mv_len (res_len h0 u) h0, mv_len (res_len h0 v) h0]) rfl
theorem mv_zs {d : List Bool} {r : Nat} (h0 : 0 < r) : mv d (zs r) = zs r := by
  obtain ⟨q, rfl⟩ : ∃ q, r = q + 1 := ⟨r - 1, by omega⟩
  unfold mv
  rw [zs_snoc, List.dropLast_concat]
  have : (zs q ++ [false]).getLastD false = false := by simp [List.getLastD_eq_getLast?]
  rw [this]
  simp only [Bool.false_eq_true, if_false, xh_nilR]
  rw [← zs_snoc, zs_succ]
theorem xh_f (u : List Bool) : xh u [false] = u := xh_zs u 1
theorem res_zs {d : List Bool} {r : Nat} (h0 : 0 < r) : ∀ n : Nat, res d r (zs n) = zs r
  | 0 => rfl
  | n + 1 => by
    show xh (mv d (res d r (zs n))) [false] = zs r
    rw [res_zs h0 n, mv_zs h0, xh_f]
theorem res_pad {d : List Bool} {r : Nat} (h0 : 0 < r) (n : Nat) : ∀ u : List Bool, res d r (u ++ zs n) = res d r u
  | [] => res_zs h0 n
  | a :: u => by
    show xh (mv d (res d r (u ++ zs n))) [a] = xh (mv d (res d r u)) [a]
    rw [res_pad h0 n u]
/-- a row with its signs ahead is right -/
theorem res_check {d : List Bool} {r : Nat} (h0 : 0 < r) (row : List Bool) : res d r (res d r (zs r ++ row) ++ row) = zs r := by
  generalize hq : res d r (zs r ++ row) = q
  have hl : q.length = r := by rw [← hq]; exact res_len h0 _
  have e : q ++ row = xl (q ++ zs row.length) (zs r ++ row) := by
    unfold xl
    rw [List.zipWith_append (by rw [hl]; exact (List.length_replicate ..).symm)]
    show q ++ row = xl q (zs r) ++ xl (zs row.length) row
    rw [xl_zs q r hl, zs_xl row _ rfl]
  rw [e, res_lin h0 _ _ (by simp [zs, hl]), res_pad h0, hq, res_short q (by omega), hl, Nat.sub_self]
  show xl (q ++ []) q = _
  rw [List.append_nil, xl_self, hl]
/-! ### rows of places -/
def one (r : Nat) : List Bool := true :: zs (r - 1)
theorem xl_one {r : Nat} (h0 : 0 < r) : xh (zs r) [true] = one r := by
  obtain ⟨q, rfl⟩ : ∃ q, r = q + 1 := ⟨r - 1, by omega⟩
  rw [zs_succ, xh_cons, xh_nilR]
  rfl
/-- the remainders of the powers -/
def pw (d : List Bool) (r : Nat) : Nat → List Bool
  | 0 => one r
  | n + 1 => mv d (pw d r n)
theorem pw_len {d : List Bool} {r : Nat} (h0 : 0 < r) : ∀ n : Nat, (pw d r n).length = r
  | 0 => by show (true :: zs (r - 1)).length = r; rw [List.length_cons]; simp [zs]; omega
  | n + 1 => mv_len (pw_len h0 n) h0
theorem res_unit {d : List Bool} {r : Nat} (h0 : 0 < r) (m : Nat) : ∀ p : Nat, res d r (zs p ++ true :: zs m) = pw d r p
  | 0 => by
    show xh (mv d (res d r (zs m))) [true] = one r
    rw [res_zs h0, mv_zs h0, xl_one h0]
  | p + 1 => by
    show xh (mv d (res d r (zs p ++ true :: zs m))) [false] = mv d (pw d r p)
    rw [res_unit h0 m p, xh_f]
def rowOf (ps : List Nat) (n : Nat) : List Bool := (List.range n).map fun k => ps.contains k
theorem rowOf_nil (n : Nat) : rowOf [] n = zs n := by
  unfold rowOf zs
  rw [List.eq_replicate_iff]
  simp
theorem rowOf_cons {p n : Nat} {ps : List Nat} (hp : p < n) (h : p ∉ ps) : rowOf (p :: ps) n = xl (zs p ++ true :: zs (n - p - 1)) (rowOf ps n) := by
  apply List.ext_getElem?
  intro k
  unfold xl rowOf
  rw [List.getElem?_zipWith]
  by_cases hk : k < n
  · have e1 : (zs p ++ true :: zs (n - p - 1))[k]? = some (decide (k = p)) := by
      rcases Nat.lt_trichotomy k p with c | c | c
      · rw [List.getElem?_append_left (by simpa [zs] using c)]
        simp [zs, c, Nat.ne_of_lt c]
      · subst c
        rw [List.getElem?_append_right (by simp [zs])]
        simp [zs]
      · rw [List.getElem?_append_right (by simp [zs]; omega)]
        obtain ⟨q, hq⟩ : ∃ q, k - (zs p).length = q + 1 := ⟨k - p - 1, by simp [zs]; omega⟩
        rw [hq, List.getElem?_cons_succ]
        have : q < n - p - 1 := by simp [zs] at hq; omega
        simp [zs, this]
        omega
    rw [e1]
    simp only [List.getElem?_map, List.getElem?_range hk, Option.map_some]
    congr 1
    rw [List.contains_cons]
    by_cases c : k = p
    · subst c
      have : ps.contains k = false := by simpa using h
      simp [this]
      exact h
    · simp [c]
  · have e1 : ((List.range n).map fun k => (p :: ps).contains k)[k]? = none := by rw [List.getElem?_eq_none_iff]; simp; omega
    have e2 : ((List.range n).map fun k => ps.contains k)[k]? = none := by rw [List.getElem?_eq_none_iff]; simp; omega
    rw [e1, e2]
    split <;> simp_all
/-- the remainder of a row of places -/
theorem res_row {d : List Bool} {r n : Nat} (h0 : 0 < r) : ∀ ps : List Nat, ps.Nodup → (∀ p ∈ ps, p < n) → res d r (rowOf ps n) = ps.foldr (fun p v => xl (pw d r p) v) (zs r)
  | [], _, _ => by rw [rowOf_nil, res_zs h0]; rfl
  | p :: ps, hn, h => by
    rw [List.nodup_cons] at hn
    have hp := h p List.mem_cons_self
    rw [rowOf_cons hp hn.1, res_lin h0 _ _ (by simp [zs, rowOf]; omega), res_unit h0, res_row h0 ps hn.2 fun q hq => h q (List.mem_cons_of_mem _ hq)]
    rfl
/-! ### as numbers -/
def num : List Bool → Nat
  | [] => 0
  | b :: v => b.toNat + 2 * num v
end Sw.k43
/-! subsets and the finite check -/
namespace Sw.k43
def nxt (ps : List Nat) : Nat := match ps.getLast? with
  | some p => p + 1
  | none => 0
def ext (n : Nat) (ps : List Nat) : List (List Nat) := (List.range' (nxt ps) (n - nxt ps)).map fun k => ps ++ [k]
def lay (n : Nat) : Nat → List (List Nat)
  | 0 => [[]]
  | s + 1 => (lay n s).flatMap (ext n)
def subs (n most : Nat) : List (List Nat) := (List.range most).flatMap fun s => lay n (s + 1)
def xs (tab : List Nat) (ps : List Nat) : Nat := ps.foldr (fun p v => tab.getD p 0 ^^^ v) 0
def tabOf (d : List Bool) (n : Nat) : List Nat := (List.range n).map fun p => num (pw d (d.length - 1) p)
def fpl (n : Nat) (tab : List Nat) : Nat → List Nat → Nat → Option (List Nat)
  | 0, ch, left => if left = 0 then some ch else none
  | m + 1, ch, left => (List.range' (nxt ch) (n - m - nxt ch)).findSome? fun p => fpl n tab m (ch ++ [p]) (left ^^^ tab.getD p 0)
def least (tab : List Nat) (n : Nat) : Option (List Nat) := (List.range n).findSome? fun m => fpl n tab m [0] (tab.getD 0 0)
def ord (d : List Bool) : Option Nat := (List.range 64).find? fun t => pw d (d.length - 1) (t + 1) == one (d.length - 1)
def fits : Nat → Nat → List Nat → Bool
  | 0, _, ps => ps.length == 2
  | 1, _, ps => ps.length % 2 == 1
  | _, b, ps => decide (ps.getD (ps.length - 1) 0 - ps.getD 0 0 < b)
def Z (tab : List Nat) (n most : Nat) : List (List Nat) := (subs n most).filter fun ps => xs tab ps == 0
def placesOf (d : List Bool) : List Nat := (List.range d.length).filter fun k => d.getD k false
/-- the table as one number, eight bits each -/
def packT : List Nat → Nat
  | [] => 0
  | x :: t => Nat.add x (Nat.mul 256 (packT t))
noncomputable def xsP (T : Nat) (ps : List Nat) : Nat := List.rec 0 (fun p _ ih => Nat.xor (Nat.mod (Nat.div T (Nat.pow 256 p)) 256) ih) ps
noncomputable def ZP (T : Nat) (n most : Nat) : List (List Nat) := (subs n most).filter fun ps => Nat.beq (xsP T ps) 0
noncomputable def check1 (d : List Bool) (n : Nat) : Bool :=
  let T := packT (tabOf d n)
  let z := ZP T n n
  let r := d.length - 1
  let pl := placesOf d
  (match ord d with
  | none => false
  | some o => ((ZP T n 2).filter (fits 0 0)).head? == (if o + 1 < n then some [0, o + 1] else none))
  && (if pl.length % 2 = 1 ∧ r < n then (z.filter (fits 1 0)).contains pl else (z.filter (fits 1 0)).isEmpty)
  && (List.range 9).all (fun b => if min (b + 1) n ≤ r then (z.filter (fits 2 (b + 1))).isEmpty else match least (tabOf d (min (b + 1) n)) (min (b + 1) n) with
    | some ps => (z.filter (fits 2 (b + 1))).head? == some ps
    | none => false)
  && (if r + 1 ≤ n then match least (tabOf d n) n with
    | some ps => z.head? == some ps
    | none => false else true)
def bitsN : Nat → List (List Bool)
  | 0 => [[]]
  | n + 1 => (bitsN n).flatMap fun v => [false :: v, true :: v]
def divisors : List (List Bool) := (List.range 6).flatMap fun m => (bitsN m).map fun v => true :: v ++ [true]
noncomputable def checkAll : Bool := divisors.all fun d => (List.range 8).all fun n => check1 d (n + 2)
end Sw.k43
namespace Sw.k43
theorem xor_bit (a b : Bool) (x y : Nat) : (a.toNat + 2 * x) ^^^ (b.toNat + 2 * y) = (a ^^ b).toNat + 2 * (x ^^^ y) := by
  apply Nat.eq_of_testBit_eq
  intro i
  cases i with
  | zero => cases a <;> cases b <;> simp [Nat.testBit_zero, Nat.testBit_xor] <;> omega
  | succ i =>
    have e : ∀ (c : Bool) (z : Nat), (c.toNat + 2 * z) / 2 = z := fun c z => by cases c <;> simp <;> omega
    rw [Nat.testBit_xor, Nat.testBit_succ, Nat.testBit_succ, Nat.testBit_succ, e, e, e, Nat.testBit_xor]
theorem num_xl : ∀ u v : List Bool, u.length = v.length → num (xl u v) = num u ^^^ num v
  | [], v, h => by
    have : v = [] := List.eq_nil_of_length_eq_zero h.symm
    subst this
    rfl
  | a :: u, [], h => by simp at h
  | a :: u, b :: v, h => by
    show (a ^^ b).toNat + 2 * num (xl u v) = (a.toNat + 2 * num u) ^^^ (b.toNat + 2 * num v)
    rw [xor_bit, num_xl u v (by simpa using h)]
theorem num_zs : ∀ n, num (zs n) = 0
  | 0 => rfl
  | n + 1 => by
    show false.toNat + 2 * num (zs n) = 0
    rw [num_zs n] <;> rfl
theorem num_zero : ∀ v : List Bool, num v = 0 → v = zs v.length
  | [], _ => rfl
  | a :: v, h => by
    have h : a.toNat + 2 * num v = 0 := h
    have h1 : num v = 0 := by omega
    have h2 : a = false := by cases a <;> simp_all
    rw [h2, List.length_cons, zs_succ, ← num_zero v h1]
theorem any_zs (v : List Bool) : (v.any id = false) ↔ num v = 0 := by
  constructor
  · intro h
    have : v = zs v.length := by
      unfold zs
      rw [List.eq_replicate_iff]
      refine ⟨rfl, fun b hb => ?_⟩
      rw [List.any_eq_false] at h
      simpa using h b hb
    rw [this, num_zs]
  · intro h
    rw [num_zero v h, List.any_eq_false]
    intro b hb
    rw [List.eq_of_mem_replicate hb]
    decide
theorem any_num (v : List Bool) : (!v.any id) = (num v == 0) := by
  cases h : v.any id with
  | false =>
    have := (any_zs v).mp h
    rw [this] <;> rfl
  | true =>
    have : num v ≠ 0 := fun e => by rw [(any_zs v).mpr e] at h; cases h
    simp [this]
theorem fold_len (f : Nat → List Bool) (r : Nat) (hf : ∀ p, (f p).length = r) : ∀ ps : List Nat, (ps.foldr (fun p v => xl (f p) v) (zs r)).length = r
  | [] => List.length_replicate ..
  | p :: ps => by
    show (xl (f p) _).length = r
    rw [xl_len (by rw [hf, fold_len f r hf ps]), hf]
theorem tab_at {d : List Bool} {n p : Nat} (h : p < n) : (tabOf d n).getD p 0 = num (pw d (d.length - 1) p) := by
  unfold tabOf
  rw [List.getD_eq_getElem?_getD, List.getElem?_map, List.getElem?_range h] <;> rfl
theorem num_fold {d : List Bool} {r n : Nat} (hd : d.length = r + 1) (h0 : 0 < r) : ∀ ps : List Nat, (∀ p ∈ ps, p < n) → num (ps.foldr (fun p v => xl (pw d r p) v) (zs r)) = xs (tabOf d n) ps
  | [], _ => num_zs r
  | p :: ps, h => by
    show num (xl (pw d r p) _) = (tabOf d n).getD p 0 ^^^ xs (tabOf d n) ps
    rw [num_xl _ _ (by rw [pw_len h0, fold_len _ r (pw_len h0)]), num_fold hd h0 ps fun q hq => h q (List.mem_cons_of_mem _ hq), tab_at (h p List.mem_cons_self), hd, Nat.add_sub_cancel]
theorem num_row {d : List Bool} {r n : Nat} (hd : d.length = r + 1) (h0 : 0 < r) {ps : List Nat} (hn : ps.Nodup) (h : ∀ p ∈ ps, p < n) : num (res d r (rowOf ps n)) = xs (tabOf d n) ps := by
  rw [res_row h0 ps hn h, num_fold hd h0 ps h]
theorem xs_nil (tab : List Nat) : xs tab [] = 0 := rfl
theorem xs_app (tab : List Nat) : ∀ ps qs : List Nat, xs tab (ps ++ qs) = xs tab ps ^^^ xs tab qs
  | [], qs => by simp [xs_nil]
  | p :: ps, qs => by
    show tab.getD p 0 ^^^ xs tab (ps ++ qs) = (tab.getD p 0 ^^^ xs tab ps) ^^^ xs tab qs
    rw [xs_app tab ps qs, Nat.xor_assoc]
/-! ### the subsets -/
def asc : List Nat → Bool
  | [] => true
  | [_] => true
  | a :: b :: r => decide (a < b) && asc (b :: r)
theorem asc_app : ∀ (ps : List Nat) (k : Nat), asc (ps ++ [k]) = (asc ps && decide (nxt ps ≤ k))
  | [], k => by simp [asc, nxt]
  | [a], k => by
    show (decide (a < k) && true) = (true && decide (a + 1 ≤ k))
    rw [Bool.and_true, Bool.true_and]
    rfl
  | a :: b :: r, k => by
    show (decide (a < b) && asc (b :: r ++ [k])) = ((decide (a < b) && asc (b :: r)) && decide (nxt (a :: b :: r) ≤ k))
    rw [asc_app (b :: r) k, Bool.and_assoc]
    congr 2
theorem asc_lt_nxt : ∀ (ps : List Nat), asc ps = true → ∀ p ∈ ps, p < nxt ps
  | [], _, p, h => nomatch h
  | [a], _, p, h => by
    rw [List.mem_singleton] at h
    subst h
    show p < p + 1
    omega
  | a :: b :: r, h, p, hp => by
    have h : (decide (a < b) && asc (b :: r)) = true := h
    rw [Bool.and_eq_true, decide_eq_true_eq] at h
    have ih := asc_lt_nxt (b :: r) h.2
    have e : nxt (a :: b :: r) = nxt (b :: r) := by unfold nxt; rw [List.getLast?_cons_cons]
    rw [e]
    rcases List.mem_cons.mp hp with rfl | hp
    · have := ih b List.mem_cons_self
      omega
    · exact ih p hp
theorem mem_ext {n : Nat} {ps qs : List Nat} : qs ∈ ext n ps ↔ ∃ k, nxt ps ≤ k ∧ k < n ∧ qs = ps ++ [k] := by
  unfold ext
  rw [List.mem_map]
  constructor
  · rintro ⟨k, hk, rfl⟩
    rw [List.mem_range'_1] at hk
    exact ⟨k, hk.1, by omega, rfl⟩
  · rintro ⟨k, h1, h2, rfl⟩
    exact ⟨k, by rw [List.mem_range'_1]; omega, rfl⟩
theorem mem_lay {n : Nat} : ∀ {s : Nat} {ps : List Nat}, ps ∈ lay n s ↔ ps.length = s ∧ asc ps = true ∧ ∀ p ∈ ps, p < n
  | 0, ps => by
    show ps ∈ [[]] ↔ _
    rw [List.mem_singleton]
    constructor
    · rintro rfl
      exact ⟨rfl, rfl, fun p h => nomatch h⟩
    · rintro ⟨h, _⟩
      exact List.eq_nil_of_length_eq_zero h
  | s + 1, ps => by
    show ps ∈ (lay n s).flatMap (ext n) ↔ _
    rw [List.mem_flatMap]
    constructor
    · rintro ⟨qs, h1, h2⟩
      obtain ⟨k, h3, h4, rfl⟩ := mem_ext.mp h2
      obtain ⟨h5, h6, h7⟩ := mem_lay.mp h1
      refine ⟨by simp [h5], ?_, fun p hp => ?_⟩
      · rw [asc_app, h6, decide_eq_true h3] <;> rfl
      · rcases List.mem_append.mp hp with hp | hp
        · exact h7 p hp
        · rw [List.mem_singleton.mp hp]; exact h4
    · rintro ⟨h1, h2, h3⟩
      rcases List.eq_nil_or_concat ps with rfl | ⟨qs, k, rfl⟩
      · simp at h1
      · rw [List.concat_eq_append] at *
        rw [asc_app, Bool.and_eq_true, decide_eq_true_eq] at h2
        refine ⟨qs, mem_lay.mpr ⟨by simpa using h1, h2.1, fun p hp => h3 p (List.mem_append_left _ hp)⟩, mem_ext.mpr ⟨k, h2.2, h3 k (by simp), rfl⟩⟩
theorem mem_subs {n most : Nat} {ps : List Nat} : ps ∈ subs n most ↔ ps ≠ [] ∧ ps.length ≤ most ∧ asc ps = true ∧ ∀ p ∈ ps, p < n := by
  unfold subs
  rw [List.mem_flatMap]
  constructor
  · rintro ⟨s, h1, h2⟩
    rw [List.mem_range] at h1
    obtain ⟨h3, h4, h5⟩ := mem_lay.mp h2
    exact ⟨fun e => by rw [e] at h3; simp at h3, by omega, h4, h5⟩
  · rintro ⟨h1, h2, h3, h4⟩
    have : 0 < ps.length := List.length_pos_iff.mpr h1
    exact ⟨ps.length - 1, by rw [List.mem_range]; omega, mem_lay.mpr ⟨by omega, h3, h4⟩⟩
theorem asc_nodup : ∀ (ps : List Nat), asc ps = true → ps.Nodup
  | [], _ => List.nodup_nil
  | [a], _ => by simp
  | a :: b :: r, h => by
    have h : (decide (a < b) && asc (b :: r)) = true := h
    rw [Bool.and_eq_true, decide_eq_true_eq] at h
    rw [List.nodup_cons]
    refine ⟨fun hm => ?_, asc_nodup _ h.2⟩
    have : ∀ (l : List Nat) (c : Nat), asc (c :: l) = true → ∀ x ∈ l, c < x := by
      intro l
      induction l with
      | nil => intro c _ x hx; cases hx
      | cons y l ih =>
        intro c hc x hx
        have hc : (decide (c < y) && asc (y :: l)) = true := hc
        rw [Bool.and_eq_true, decide_eq_true_eq] at hc
        rcases List.mem_cons.mp hx with rfl | hx
        · exact hc.1
        · have := ih y hc.2 x hx
          omega
    rcases List.mem_cons.mp hm with e | hm
    · omega
    · have := this r b h.2 a hm
      omega
theorem num_lt : ∀ v : List Bool, num v < 2 ^ v.length
  | [] => by decide
  | a :: v => by
    show a.toNat + 2 * num v < 2 ^ (v.length + 1)
    have h := num_lt v
    rw [Nat.pow_succ]
    have : a.toNat ≤ 1 := by cases a <;> decide
    omega
theorem pack_at : ∀ (t : List Nat) (p : Nat), (∀ x ∈ t, x < 256) → packT t / 256 ^ p % 256 = t.getD p 0
  | [], p, _ => by
    show 0 / 256 ^ p % 256 = _
    rw [Nat.zero_div] <;> rfl
  | x :: t, 0, h => by
    show (x + 256 * packT t) / 256 ^ 0 % 256 = x
    have := h x List.mem_cons_self
    rw [Nat.pow_zero, Nat.div_one]
    omega
  | x :: t, p + 1, h => by
    show (x + 256 * packT t) / 256 ^ (p + 1) % 256 = (x :: t).getD (p + 1) 0
    have h1 := h x List.mem_cons_self
    rw [Nat.pow_succ', ← Nat.div_div_eq_div_mul, show (x + 256 * packT t) / 256 = packT t by omega, pack_at t p fun y hy => h y (List.mem_cons_of_mem _ hy), List.getD_cons_succ]
theorem xsP_eq {t : List Nat} (h : ∀ x ∈ t, x < 256) : ∀ ps : List Nat, xsP (packT t) ps = xs t ps
  | [] => rfl
  | p :: ps => by
    show (packT t / 256 ^ p % 256) ^^^ xsP (packT t) ps = t.getD p 0 ^^^ xs t ps
    rw [xsP_eq h ps, pack_at t p h]
theorem ZP_eq {d : List Bool} (n n2 most : Nat) (h1 : 1 < d.length) (h2 : d.length ≤ 7) : ZP (packT (tabOf d n)) n2 most = Z (tabOf d n) n2 most := by
  have h : ∀ x ∈ tabOf d n, x < 256 := fun x hx => by
    unfold tabOf at hx
    rw [List.mem_map] at hx
    obtain ⟨p, _, rfl⟩ := hx
    have h3 := num_lt (pw d (d.length - 1) p)
    rw [pw_len (by omega)] at h3
    have h4 : 2 ^ (d.length - 1) ≤ 2 ^ 7 := Nat.pow_le_pow_right (by omega) (by omega)
    have h5 : (2 : Nat) ^ 7 = 128 := by decide
    omega
  unfold ZP Z
  congr 1
  funext ps
  rw [xsP_eq h]
  generalize xs (tabOf d n) ps = x
  cases x <;> rfl
end Sw.k43
namespace Sw.k43
theorem check_ok : checkAll = true := by decide +kernel
end Sw.k43
namespace Sw.k43
def bP (b : Bool) : P := .int (if b then 1 else 0)
def bits (l : List Bool) : List P := l.map bP
theorem bits_len (l : List Bool) : (bits l).length = l.length := List.length_map ..
theorem bits_app (u v : List Bool) : bits (u ++ v) = bits u ++ bits v := List.map_append ..
theorem bits_at {L : List Bool} {q : Nat} (h : q < L.length) : atP (bits L) (q : Int) = some (bP (L.getD q false)) := by
  rw [at_nat (by rw [bits_len]; exact h)]
  unfold bits
  rw [List.getElem?_map, List.getD_eq_getElem?_getD, List.getElem?_eq_getElem h] <;> rfl
theorem bits_set (L : List Bool) (q : Nat) (b : Bool) : (bits L).set q (bP b) = bits (L.set q b) := by
  unfold bits
  rw [List.map_set]
theorem so_xorB (a b : Bool) : opSem .xor [.imm (bP a), .imm (bP b)] = some (.imm (bP (a ^^ b))) := by
  cases a <;> cases b <;> decide +kernel
theorem so_plusB (a b : Bool) : ((opSem .add [.imm (bP a), .imm (bP b)]).bind fun d => opSem .mod [d, .imm (.int 2)]) = some (.imm (bP (a ^^ b))) := by
  cases a <;> cases b <;> decide +kernel
theorem so_eq1 (a : Bool) : opSem .eq [.imm (bP a), .imm (.int 1)] = some (.imm (.bl a)) := by
  cases a <;> decide +kernel
theorem it_rng3 {i j : Int} (h : -1000000 ≤ i ∧ i ≤ 1000000 ∧ -1000000 ≤ j ∧ j ≤ 1000000) : items .rng3 [.imm (.int i), .imm (.int j), .imm (.int (-1))] = some ((List.range (i - j).toNat).map fun k : Nat => P.int (i - (k : Int))) := by
  have e : (2:Int)^62 = 4611686018427387904 := by decide
  have h1 : small62 i = true := by unfold small62; exact decide_eq_true (by omega)
  have h2 : small62 j = true := by unfold small62; exact decide_eq_true (by omega)
  simp only [items, h1, h2, Bool.and_self, decide_true, if_true]
theorem it_enumT (a : List P) : items .enum [.imm (.tup a)] = some (a.zipIdx.map fun q => .tup [.int (q.2 : Int), q.1]) := rfl
theorem enum_get {a : List P} {i : Nat} {p : P} (h : (a.zipIdx.map fun q => P.tup [.int (q.2 : Int), q.1])[i]? = some p) : ∃ x, a[i]? = some x ∧ p = .tup [.int i, x] := by
  rw [List.getElem?_map, List.getElem?_zipIdx] at h
  cases q : a[i]? with
  | none => rw [q] at h; cases h
  | some x => rw [q] at h; cases h; exact ⟨x, rfl, by simp⟩
theorem bits_get {l : List Bool} {i : Nat} {x : P} (h : (bits l)[i]? = some x) : ∃ b, l[i]? = some b ∧ x = bP b := by
  unfold bits at h
  rw [List.getElem?_map] at h
  cases q : l[i]? with
  | none => rw [q] at h; cases h
  | some b => rw [q] at h; cases h; exact ⟨b, rfl, rfl⟩
theorem drop_get {α : Type} {l : List α} {i : Nat} {x : α} (h : l[i]? = some x) : l.drop i = x :: l.drop (i + 1) := by
  obtain ⟨hlt, e⟩ := List.getElem?_eq_some_iff.mp h
  rw [List.drop_eq_getElem_cons hlt, e]
/-- left[k - r + j] = left[k - r + j] ^ one -/
theorem rest_inner {Φ : CallS} (d L : List Bool) (s : Nat) (row : P) (kk rr : Int) (x5 x6 : Option D) (hk : kk - rr = s) (hl : s + d.length ≤ L.length) {R : Fl × En → Prop}
    (hR : ∀ x5 x6, R (.nx, [some (.imm (.tup (bits d))), some (.imm row), some (.imm (.int rr)), some (.lst (bits (addAt L s d))), some (.imm (.int kk)), x5, x6])) :
    wp (ex Φ G (.fors (.tp [(.nm 5), (.nm 6)]) .enum [(.nm 0)] [.sto 3 (.op .add [(.op .sub [(.nm 4), (.nm 2)]), (.nm 5)]) (.op .xor [(.op .idx [(.nm 3), (.op .add [(.op .sub [(.nm 4), (.nm 2)]), (.nm 5)])]), (.nm 6)])])
      [some (.imm (.tup (bits d))), some (.imm row), some (.imm (.int rr)), some (.lst (bits L)), some (.imm (.int kk)), x5, x6]) R := by
  simp -implicitDefEqProofs [it_enumT]
  refine wp_for (fun i e => ∃ (C : List Bool) (x5 x6 : Option D), C.length = L.length ∧ addAt L s d = addAt C (s + i) (d.drop i) ∧ i ≤ d.length ∧
    e = [some (.imm (.tup (bits d))), some (.imm row), some (.imm (.int rr)), some (.lst (bits C)), some (.imm (.int kk)), x5, x6]) ⟨L, x5, x6, rfl, rfl, Nat.zero_le _, rfl⟩ (fun i p e hp hi => ?_) (fun e hi => ?_)
  · obtain ⟨C, x5, x6, hC, hA, hid, rfl⟩ := hi
    obtain ⟨x, hx, rfl⟩ := enum_get hp
    obtain ⟨b, hb, rfl⟩ := bits_get hx
    have hlt : i < d.length := (List.getElem?_eq_some_iff.mp hb).1
    rw [drop_get hb] at hA
    obtain ⟨q, hq⟩ : ∃ q : Nat, q = s + i := ⟨_, rfl⟩
    have hj : kk - rr + (i : Int) = (q : Int) := by omega
    have hqC : q < C.length := by omega
    have hix : ixP (bits C).length (q : Int) = some q := ix_nat (by rw [bits_len]; exact hqC)
    simp -implicitDefEqProofs [stepFf, hj, bits_at hqC, so_xorB, hix, bits_set]
    refine ⟨C.set q (C.getD q false ^^ b), ?_, ?_, hlt, ?_⟩
    · rw [List.length_set, hC]
    · rw [hA, hq]
      rfl
    · simp
  · obtain ⟨C, x5, x6, hC, hA, hid, rfl⟩ := hi
    rw [List.length_map, List.length_zipIdx, bits_len, List.drop_length] at hA
    have hA : addAt L s d = C := hA
    rw [← hA]
    exact hR _ _
end Sw.k43
namespace Sw.k43
theorem bits_zs (n : Nat) : rept [P.int 0] (n : Int) = bits (zs n) := by
  rw [rept_one]
  unfold bits zs
  rw [List.map_replicate]
  rfl
theorem max_nat (a b : Nat) (f : Int) (h : f = (a : Int) - b) : (if f > 0 then f else 0) = ((a - b : Nat) : Int) := by
  split <;> omega
theorem cut_bits (l : List Bool) (r : Nat) : cutP (bits l) none (some (r : Int)) = bits (l.take r) := by
  rw [cut_0n]
  unfold bits
  rw [List.map_take]
/-- the remainder: rest_of -/
theorem c_rest (k : Nat) (d row : List Bool) (r : Nat) (hd : d.length = r + 1) (h0 : 0 < r) (hr : r ≤ 1000) (hw : row.length ≤ 1000) :
    callF prog G (k + 1) 1 [.imm (.tup (bits d)), .imm (.tup (bits row))] = some (.lst (bits (res d r row)), [.imm (.tup (bits d)), .imm (.tup (bits row))]) := by
  refine wp_is (call_wp (fn := f_rest_of) rfl rfl ?_)
  simp only [f_rest_of, b_rest_of]
  generalize hX : bits row = X at *
  have hXl : X.length = row.length := by rw [← hX, bits_len]
  refine wp_seq (fun q => q = (.nx, [some (.imm (.tup (bits d))), some (.imm (.tup X)), some (.imm (.int r)), none, none, none, none])) (fun R hR => ?_) fun q hq => ?_
  · have e : ((d.length : Nat) : Int) - 1 = r := by omega
    simp -implicitDefEqProofs [bits_len, e]
    exact hR _ rfl
  subst hq
  refine wp_seq (fun q => q = (.nx, [some (.imm (.tup (bits d))), some (.imm (.tup X)), some (.imm (.int r)), some (.lst (bits (row ++ zs (r - row.length)))), none, none, none])) (fun R hR => ?_) fun q hq => ?_
  · have h1 : opSem .list [.imm (.tup X)] = some (.lst X) := so_lisT (le_lineN (by omega))
    have h2 : opSem .max2 [.imm (.int 0), .imm (.int ((r : Int) - (X.length : Int)))] = some (.imm (.int ((r - X.length : Nat) : Int))) := by rw [so_max, max_nat r X.length _ rfl]
    have h3 : opSem .mul [.lst [.int 0], .imm (.int ((r - X.length : Nat) : Int))] = some (.lst (bits (zs (r - X.length)))) := by
      rw [so_mulL (le_lineN (by simp; omega)) (by omega), bits_zs]
    have h4 : opSem .add [.lst X, .lst (bits (zs (r - X.length)))] = some (.lst (bits (row ++ zs (r - row.length)))) := by
      rw [so_addl (le_lineN (by rw [bits_len]; simp [zs]; omega)), bits_app, hX, hXl]
    have h5 : (1 : Nat) ≤ line := le_lineN (by omega)
    generalize r - X.length = m at h2 h3 h4
    simp -implicitDefEqProofs [-so_max, h1, h2, h3, h4, h5]
    exact hR _ rfl
  subst hq
  generalize hL : row ++ zs (r - row.length) = L
  have hLl : L.length = max row.length r := by
    rw [← hL]
    simp [zs]
    omega
  refine wp_seq (fun q => ∃ kk x5 x6, q = (.nx, [some (.imm (.tup (bits d))), some (.imm (.tup X)), some (.imm (.int r)), some (.lst (bits (redF d r (L.length - r) L))), kk, x5, x6])) (fun R hR => ?_) fun q hq => ?_
  · have hit := it_rng3 (i := ((L.length : Nat) : Int) - 1) (j := (r : Int) - 1) (by omega)
    have hcnt : (((L.length : Nat) : Int) - 1 - ((r : Int) - 1)).toNat = L.length - r := by omega
    rw [hcnt] at hit
    simp -implicitDefEqProofs [bits_len, hit]
    refine wp_for (fun i e => ∃ (C : List Bool) (x4 x5 x6 : Option D), C.length = L.length ∧ i ≤ L.length - r ∧ redF d r (L.length - r) L = redF d r (L.length - r - i) C ∧ e = [some (.imm (.tup (bits d))), some (.imm (.tup X)), some (.imm (.int r)), some (.lst (bits C)), x4, x5, x6])
      ⟨L, none, none, none, rfl, Nat.zero_le _, rfl, rfl⟩ (fun i p e hp hi => ?_) (fun e hi => ?_)
    · obtain ⟨C, x4, x5, x6, hC, hir, hA, rfl⟩ := hi
      have hlt : i < L.length - r := by
        have := (List.getElem?_eq_some_iff.mp hp).1
        simpa using this
      obtain rfl : p = .int ((L.length : Int) - 1 - (i : Int)) := by
        rw [List.getElem?_map, List.getElem?_range hlt] at hp
        exact (Option.some.inj hp).symm
      obtain ⟨m, hm⟩ : ∃ m, L.length - r - i = m + 1 := ⟨L.length - r - i - 1, by omega⟩
      rw [hm] at hA
      have hA : redF d r (L.length - r) L = redF d r m (if C.getD (m + r) false then addAt C m d else C) := hA
      obtain ⟨q, hq⟩ : ∃ q : Nat, q = m + r := ⟨_, rfl⟩
      have hkk : (L.length : Int) - 1 - (i : Int) = (q : Int) := by omega
      have hqC : q < C.length := by omega
      rw [← hq] at hA
      rw [hkk]
      have hm' : L.length - r - (i + 1) = m := by omega
      simp -implicitDefEqProofs only [stepFf, sx_bp1, Option.bind_some, List.set_cons_succ, List.set_cons_zero]
      refine wp_seq (fun z => ∃ (C' : List Bool) (x5 x6 : Option D), C'.length = L.length ∧ redF d r (L.length - r) L = redF d r m C' ∧ z = (.nx, [some (.imm (.tup (bits d))), some (.imm (.tup X)), some (.imm (.int r)), some (.lst (bits C')), some (.imm (.int q)), x5, x6])) (fun R' hR' => ?_) fun z hz => ?_
      · cases hb : C.getD q false with
        | true =>
          rw [hb, if_pos rfl] at hA
          have hb2 : atP (bits C) (q : Int) = some (bP true) := by rw [bits_at hqC, hb]
          have e1 : opSem .eq [.imm (bP true), .imm (.int 1)] = some (.imm (.bl true)) := so_eq1 true
          rw [sx_ifs]
          simp -implicitDefEqProofs [hb2, e1, -sx_for]
          refine rest_inner d C m (.tup X) q r x5 x6 (by omega) (by omega) fun x5 x6 => ?_
          simp -implicitDefEqProofs
          exact hR' _ ⟨_, x5, x6, by rw [addAt_len]; exact hC, hA, rfl⟩
        | false =>
          rw [hb, if_neg Bool.false_ne_true] at hA
          have hb2 : atP (bits C) (q : Int) = some (bP false) := by rw [bits_at hqC, hb]
          have e1 : opSem .eq [.imm (bP false), .imm (.int 1)] = some (.imm (.bl false)) := so_eq1 false
          rw [sx_ifs]
          simp -implicitDefEqProofs [hb2, e1, -sx_for]
          exact hR' _ ⟨_, x5, x6, hC, hA, rfl⟩
      obtain ⟨C', x5, x6, hC', hA', rfl⟩ := hz
      simp -implicitDefEqProofs
      exact ⟨C', hC', hlt, by rw [hm']; exact hA', rfl⟩
    · obtain ⟨C, x4, x5, x6, hC, hir, hA, rfl⟩ := hi
      have e : (List.map (fun k : Nat => P.int ((L.length : Int) - 1 - (k : Int))) (List.range (L.length - r))).length = L.length - r := by simp
      rw [e, Nat.sub_self] at hA
      have hA : redF d r (L.length - r) L = C := hA
      rw [← hA]
      exact hR _ ⟨x4, x5, x6, rfl⟩
  obtain ⟨kk, x5, x6, rfl⟩ := hq
  have hfin : (redF d r (L.length - r) L).take r = res d r row := by
    rw [redF_res h0 L _ (by omega), ← hL]
    exact res_pad h0 _ row
  simp -implicitDefEqProofs [cut_bits, hfin, asgTs, asgT]
end Sw.k43
namespace Sw.k43
theorem mod2 (a b : Bool) : ((if a then 1 else 0 : Int) + (if b then 1 else 0)).fmod 2 = if (a ^^ b) then 1 else 0 := by
  cases a <;> cases b <;> rfl
/-- left[k - r + e] = (left[k - r + e] + divisor[e]) % 2 -/
theorem law_inner {Φ : CallS} (d L : List Bool) (s r : Nat) (row : P) (kk : Int) (x5 : Option D) (hd : d.length = r + 1) (hr : r ≤ 1000) (hk : kk - r = s) (hl : s + d.length ≤ L.length) {R : Fl × En → Prop}
    (hR : ∀ x5, R (.nx, [some (.imm (.tup (bits d))), some (.imm row), some (.imm (.int kk)), some (.lst (bits (addAt L s d))), some (.imm (.int r)), x5])) :
    wp (ex Φ G (.fors (.nm 5) .rng1 [(.op .add [(.nm 4), (.cst (.int 1))])] [.sto 3 (.op .add [(.op .sub [(.nm 2), (.nm 4)]), (.nm 5)]) (.op .mod [(.op .add [(.op .idx [(.nm 3), (.op .add [(.op .sub [(.nm 2), (.nm 4)]), (.nm 5)])]), (.op .idx [(.nm 0), (.nm 5)])]), (.cst (.int 2))])])
      [some (.imm (.tup (bits d))), some (.imm row), some (.imm (.int kk)), some (.lst (bits L)), some (.imm (.int r)), x5]) R := by
  have hit : items .rng1 [.imm (.int ((r : Int) + 1))] = some ((List.range (r + 1)).map fun k : Nat => P.int (k : Int)) := it_rng1 (n := r + 1) (by omega)
  simp -implicitDefEqProofs [hit]
  refine wp_for (fun i e => ∃ (C : List Bool) (x5 : Option D), C.length = L.length ∧ addAt L s d = addAt C (s + i) (d.drop i) ∧ i ≤ d.length ∧
    e = [some (.imm (.tup (bits d))), some (.imm row), some (.imm (.int kk)), some (.lst (bits C)), some (.imm (.int r)), x5]) ⟨L, x5, rfl, rfl, Nat.zero_le _, rfl⟩ (fun i p e hp hi => ?_) (fun e hi => ?_)
  · obtain ⟨C, x5, hC, hA, hid, rfl⟩ := hi
    obtain ⟨hir, rfl⟩ := rng_get hp
    have hlt : i < d.length := by omega
    obtain ⟨b, hb⟩ : ∃ b, d[i]? = some b := ⟨_, List.getElem?_eq_getElem hlt⟩
    rw [drop_get hb] at hA
    have hdb : atP (bits d) (i : Int) = some (bP b) := by rw [bits_at hlt, List.getD_eq_getElem?_getD, hb] <;> rfl
    obtain ⟨q, hq⟩ : ∃ q : Nat, q = s + i := ⟨_, rfl⟩
    have hj : kk - (r : Int) + (i : Int) = (q : Int) := by omega
    have hqC : q < C.length := by omega
    have hix : ixP (bits C).length (q : Int) = some q := ix_nat (by rw [bits_len]; exact hqC)
    have hb1 := bits_at hqC
    generalize C.getD q false = c at hb1
    obtain ⟨z, hz1, hz2⟩ : ∃ z, opSem .add [.imm (bP c), .imm (bP b)] = some (.imm (.int z)) ∧ opSem .mod [.imm (.int z), .imm (.int 2)] = some (.imm (bP (c ^^ b))) := by
      refine ⟨_, rfl, ?_⟩
      rw [so_mod (by decide), mod2] <;> rfl
    simp -implicitDefEqProofs [stepFf, hj, hb1, hdb, hz1, hz2, hix, bits_set]
    refine ⟨C.set q (c ^^ b), ?_, ?_, hlt, ?_⟩
    · rw [List.length_set, hC]
    · have hcq : C.getD q false = c := by
        have := bits_at hqC
        rw [hb1] at this
        have e := Option.some.inj this
        cases c <;> cases h : C.getD q false <;> first | rfl | (rw [h] at e; exact absurd e (by decide))
      rw [hA, hq, ← hcq, hq]
      rfl
    · rfl
  · obtain ⟨C, x5, hC, hA, hid, rfl⟩ := hi
    have e : (List.map (fun k : Nat => P.int (k : Int)) (List.range (r + 1))).length = d.length := by simp [hd]
    rw [e, List.drop_length] at hA
    have hA : addAt L s d = C := hA
    rw [← hA]
    exact hR _
/-- the law's own remainder -/
theorem c_lrest (k : Nat) (d row : List Bool) (r : Nat) (hd : d.length = r + 1) (h0 : 0 < r) (hr : r ≤ 1000) (hw : row.length ≤ 1000) :
    callF prog G (k + 1) 23 [.imm (.tup (bits d)), .imm (.tup (bits row))] = some (.imm (.tup (bits (res d r row))), [.imm (.tup (bits d)), .imm (.tup (bits row))]) := by
  refine wp_is (call_wp (fn := f__law_rest) rfl rfl ?_)
  simp only [f__law_rest, b__law_rest]
  refine wp_seq (fun q => q = (.nx, [some (.imm (.tup (bits d))), some (.imm (.tup (bits row))), none, some (.lst (bits row)), some (.imm (.int r)), none])) (fun R hR => ?_) fun q hq => ?_
  · have e : ((d.length : Nat) : Int) - 1 = r := by omega
    have h1 : opSem .list [.imm (.tup (bits row))] = some (.lst (bits row)) := so_lisT (le_lineN (by rw [bits_len]; omega))
    simp -implicitDefEqProofs [bits_len, e, h1]
    exact hR _ rfl
  subst hq
  generalize hX : P.tup (bits row) = X at *
  refine wp_seq (fun q => ∃ kk x5, q = (.nx, [some (.imm (.tup (bits d))), some (.imm X), kk, some (.lst (bits (redF d r (row.length - r) row))), some (.imm (.int r)), x5])) (fun R hR => ?_) fun q hq => ?_
  · have hit := it_rng3 (i := ((row.length : Nat) : Int) - 1) (j := (r : Int) - 1) (by omega)
    have hcnt : (((row.length : Nat) : Int) - 1 - ((r : Int) - 1)).toNat = row.length - r := by omega
    rw [hcnt] at hit
    simp -implicitDefEqProofs [bits_len, hit]
    refine wp_for (fun i e => ∃ (C : List Bool) (x2 x5 : Option D), C.length = row.length ∧ i ≤ row.length - r ∧ redF d r (row.length - r) row = redF d r (row.length - r - i) C ∧ e = [some (.imm (.tup (bits d))), some (.imm X), x2, some (.lst (bits C)), some (.imm (.int r)), x5])
      ⟨row, none, none, rfl, Nat.zero_le _, rfl, rfl⟩ (fun i p e hp hi => ?_) (fun e hi => ?_)
    · obtain ⟨C, x2, x5, hC, hir, hA, rfl⟩ := hi
      have hlt : i < row.length - r := by
        have := (List.getElem?_eq_some_iff.mp hp).1
        simpa using this
      obtain rfl : p = .int ((row.length : Int) - 1 - (i : Int)) := by
        rw [List.getElem?_map, List.getElem?_range hlt] at hp
        exact (Option.some.inj hp).symm
      obtain ⟨m, hm⟩ : ∃ m, row.length - r - i = m + 1 := ⟨row.length - r - i - 1, by omega⟩
      rw [hm] at hA
      have hA : redF d r (row.length - r) row = redF d r m (if C.getD (m + r) false then addAt C m d else C) := hA
      obtain ⟨q, hq⟩ : ∃ q : Nat, q = m + r := ⟨_, rfl⟩
      have hkk : (row.length : Int) - 1 - (i : Int) = (q : Int) := by omega
      have hqC : q < C.length := by omega
      rw [← hq] at hA
      rw [hkk]
      have hm' : row.length - r - (i + 1) = m := by omega
      simp -implicitDefEqProofs only [stepFf, sx_bp1, Option.bind_some, List.set_cons_succ, List.set_cons_zero]
      refine wp_seq (fun z => ∃ (C' : List Bool) (x5 : Option D), C'.length = row.length ∧ redF d r (row.length - r) row = redF d r m C' ∧ z = (.nx, [some (.imm (.tup (bits d))), some (.imm X), some (.imm (.int q)), some (.lst (bits C')), some (.imm (.int r)), x5])) (fun R' hR' => ?_) fun z hz => ?_
      · cases hb : C.getD q false with
        | true =>
          rw [hb, if_pos rfl] at hA
          have hb2 : atP (bits C) (q : Int) = some (bP true) := by rw [bits_at hqC, hb]
          have e1 : opSem .eq [.imm (bP true), .imm (.int 1)] = some (.imm (.bl true)) := so_eq1 true
          rw [sx_ifs]
          simp -implicitDefEqProofs [hb2, e1, -sx_for]
          refine law_inner d C m r X q x5 hd hr (by omega) (by omega) fun x5 => ?_
          simp -implicitDefEqProofs
          exact hR' _ ⟨_, x5, by rw [addAt_len]; exact hC, hA, rfl⟩
        | false =>
          rw [hb, if_neg Bool.false_ne_true] at hA
          have hb2 : atP (bits C) (q : Int) = some (bP false) := by rw [bits_at hqC, hb]
          have e1 : opSem .eq [.imm (bP false), .imm (.int 1)] = some (.imm (.bl false)) := so_eq1 false
          rw [sx_ifs]
          simp -implicitDefEqProofs [hb2, e1, -sx_for]
          exact hR' _ ⟨_, x5, hC, hA, rfl⟩
      obtain ⟨C', x5, hC', hA', rfl⟩ := hz
      simp -implicitDefEqProofs
      exact ⟨C', hC', hlt, by rw [hm']; exact hA', rfl⟩
    · obtain ⟨C, x2, x5, hC, hir, hA, rfl⟩ := hi
      have e : (List.map (fun k : Nat => P.int ((row.length : Int) - 1 - (k : Int))) (List.range (row.length - r))).length = row.length - r := by simp
      rw [e, Nat.sub_self] at hA
      have hA : redF d r (row.length - r) row = C := hA
      rw [← hA]
      exact hR _ ⟨x2, x5, rfl⟩
  obtain ⟨kk, x5, rfl⟩ := hq
  generalize hF : redF d r (row.length - r) row = Fr
  have hFl : Fr.length = row.length := by rw [← hF, redF_len]
  have h1 : opSem .tuple [.lst (bits (Fr.take r))] = some (.imm (.tup (bits (Fr.take r)))) := so_tupL (le_lineN (by rw [bits_len, List.length_take]; omega))
  have e62 : (2:Int)^62 = 4611686018427387904 := by decide
  have h2 : opSem .mul [.imm (.tup [.int 0]), .imm (.int ((r : Int) - (Fr.length : Int)))] = some (.imm (.tup (bits (zs (r - row.length))))) := by
    have : -(2 ^ 62) ≤ (r : Int) - (Fr.length : Int) ∧ (r : Int) - (Fr.length : Int) < 2 ^ 62 ∧ [P.int 0].length * ((r : Int) - (Fr.length : Int)).toNat ≤ line := by
      rw [e62]
      refine ⟨by omega, by omega, le_lineN ?_⟩
      simp
      omega
    simp only [opSem, opMul]
    rw [if_pos this, ← bits_zs]
    unfold rept
    rw [Int.toNat_natCast, show ((r : Int) - (Fr.length : Int)).toNat = r - row.length by omega]
  have h3 : opSem .add [.imm (.tup (bits (Fr.take r))), .imm (.tup (bits (zs (r - row.length))))] = some (.imm (.tup (bits (res d r row)))) := by
    rw [so_addt (le_lineN (by rw [bits_len, bits_len, List.length_take]; simp [zs]; omega)), ← bits_app]
    congr 4
    by_cases hc : row.length ≤ r
    · have : row.length - r = 0 := by omega
      rw [this] at hF
      have hF : row = Fr := hF
      rw [← hF, List.take_of_length_le hc, res_short row hc]
    · rw [show r - row.length = 0 by omega, ← hF, redF_res h0 row _ (by omega)]
      simp [zs]
  have h4 : (1 : Nat) ≤ line := le_lineN (by omega)
  simp -implicitDefEqProofs [bits_len, cut_bits, h1, h2, h3, h4, asgTs, asgT]
end Sw.k43
namespace Sw.k43
theorem so_mulT {xs : List P} {n : Nat} (h : xs.length * n ≤ line) (hn : n ≤ 100000) : opSem .mul [.imm (.tup xs), .imm (.int n)] = some (.imm (.tup (rept xs n))) := by
  have e62 : (2:Int)^62 = 4611686018427387904 := by decide
  simp only [opSem, opMul]
  rw [if_pos (by rw [e62, Int.toNat_natCast]; exact ⟨by omega, by omega, h⟩)]
theorem c_remainder (k : Nat) (d row : List Bool) (r : Nat) (hd : d.length = r + 1) (h0 : 0 < r) (hr : r ≤ 1000) (hw : row.length ≤ 1000) :
    callF prog G (k + 2) 2 [.imm (.tup (bits d)), .imm (.tup (bits row))] = some (.imm (.tup (bits (res d r row))), [.imm (.tup (bits d)), .imm (.tup (bits row))]) := by
  refine wp_is (call_wp (fn := f_remainder) rfl rfl ?_)
  have e := c_rest k d row r hd h0 hr hw
  have h1 : opSem .tuple [.lst (bits (res d r row))] = some (.imm (.tup (bits (res d r row)))) := so_tupL (le_lineN (by rw [bits_len, res_len h0]; omega))
  simp -implicitDefEqProofs [f_remainder, b_remainder, e, h1, asgTs, asgT]
theorem c_check (k : Nat) (d row : List Bool) (r : Nat) (hd : d.length = r + 1) (h0 : 0 < r) (hr : r ≤ 400) (hw : row.length ≤ 400) :
    callF prog G (k + 3) 3 [.imm (.tup (bits d)), .imm (.tup (bits row))] = some (.imm (.tup (bits (res d r (zs r ++ row) ++ row))), [.imm (.tup (bits d)), .imm (.tup (bits row))]) := by
  refine wp_is (call_wp (fn := f_with_check) rfl rfl ?_)
  simp only [f_with_check, b_with_check]
  have e := c_remainder k d (zs r ++ row) r hd h0 (by omega) (by simp [zs]; omega)
  have e1 : ((d.length : Nat) : Int) - 1 = r := by omega
  have h1 : opSem .tuple [.imm (.tup (bits row))] = some (.imm (.tup (bits row))) := so_tupT (le_lineN (by rw [bits_len]; omega))
  have h2 : opSem .mul [.imm (.tup [.int 0]), .imm (.int r)] = some (.imm (.tup (bits (zs r)))) := by rw [so_mulT (le_lineN (by simp; omega)) (by omega), bits_zs]
  have h3 : opSem .add [.imm (.tup (bits (zs r))), .imm (.tup (bits row))] = some (.imm (.tup (bits (zs r ++ row)))) := by rw [so_addt (le_lineN (by rw [bits_len, bits_len]; simp [zs]; omega)), bits_app]
  have h4 : opSem .add [.imm (.tup (bits (res d r (zs r ++ row)))), .imm (.tup (bits row))] = some (.imm (.tup (bits (res d r (zs r ++ row) ++ row)))) := by rw [so_addt (le_lineN (by rw [bits_len, bits_len, res_len h0]; omega)), bits_app]
  have h5 : (1 : Nat) ≤ line := le_lineN (by omega)
  simp -implicitDefEqProofs [bits_len, e1, e, h1, h2, h3, h4, h5, asgTs, asgT]
theorem last_bits {v : List Bool} (h : v ≠ []) : atP (bits v) (-1) = some (bP (v.getLastD false)) := by
  have hl : 0 < v.length := List.length_pos_iff.mpr h
  have hm : bits v ≠ [] := by unfold bits; simpa using h
  rw [at_last hm]
  unfold bits
  rw [List.length_map, List.getElem?_map, List.getLastD_eq_getLast?, List.getLast?_eq_getElem?, List.getElem?_eq_getElem (by omega)] <;> rfl
theorem cut_last {α : Type} (xs : List α) : cutP xs none (some (-1)) = xs.dropLast := by
  unfold cutP
  show (xs.drop 0).take (sIxP xs.length xs.length (some (-1)) - 0) = _
  unfold sIxP
  simp only
  rw [if_pos (by decide), List.drop_zero, List.dropLast_eq_take]
  congr 1
  omega
theorem bits_dl (v : List Bool) : (bits v).dropLast = bits v.dropLast := by unfold bits; rw [List.map_dropLast]
theorem it_zipLT (a b : List P) : items .zip [.lst a, .imm (.tup b)] = some ((a.zip b).map fun q => .tup [q.1, q.2]) := rfl
theorem zip_get {a b : List P} {i : Nat} {p : P} (h : ((a.zip b).map fun q => P.tup [q.1, q.2])[i]? = some p) : ∃ x y, a[i]? = some x ∧ b[i]? = some y ∧ p = .tup [x, y] := by
  rw [List.getElem?_map] at h
  cases q : (a.zip b)[i]? with
  | none => rw [q] at h; cases h
  | some z =>
    rw [q] at h
    cases h
    obtain ⟨h1, h2⟩ := List.getElem?_zip_eq_some.mp q
    exact ⟨z.1, z.2, h1, h2, rfl⟩
theorem xh_take_succ : ∀ (u d : List Bool) (i : Nat) (a b : Bool), u[i]? = some a → d[i]? = some b → (xh u d).take (i + 1) = (xh u d).take i ++ [a ^^ b]
  | [], d, i, a, b, h, _ => by simp at h
  | x :: u, [], i, a, b, _, h => by simp at h
  | x :: u, y :: d, 0, a, b, h, h' => by
    simp at h h'
    subst h h'
    simp
  | x :: u, y :: d, i + 1, a, b, h, h' => by
    rw [xh_cons, List.take_succ_cons, List.take_succ_cons, xh_take_succ u d i a b (by simpa using h) (by simpa using h')]
    rfl
theorem c_moved (k : Nat) (d v : List Bool) (r : Nat) (hd : d.length = r + 1) (hv : v.length = r) (h0 : 0 < r) (hr : r ≤ 400) :
    callF prog G (k + 1) 4 [.imm (.tup (bits d)), .lst (bits v)] = some (.lst (bits (mv d v)), [.imm (.tup (bits d)), .lst (bits v)]) := by
  refine wp_is (call_wp (fn := f_moved) rfl rfl ?_)
  simp only [f_moved, b_moved]
  have hne : v ≠ [] := fun e => by rw [e] at hv; simp at hv; omega
  have hl := last_bits hne
  have e1 : opSem .eq [.imm (bP (v.getLastD false)), .imm (.int 1)] = some (.imm (.bl (v.getLastD false))) := so_eq1 _
  have h2 : slcSem (.lst (bits v)) none (some (-1)) = some (.lst (bits v.dropLast)) := by rw [so_slcL, cut_last, bits_dl]
  have h3 : opSem .add [.lst [.int 0], .lst (bits v.dropLast)] = some (.lst (bits (false :: v.dropLast))) := by rw [so_addl (le_lineN (by rw [bits_len]; simp; omega))]; rfl
  have h5 : (1 : Nat) ≤ line := le_lineN (by omega)
  have hm : mv d v = xh (false :: v.dropLast) (if v.getLastD false then d else []) := rfl
  rw [hm]
  generalize v.getLastD false = b at *
  refine wp_seq (fun q => q = (.nx, [some (.imm (.tup (bits d))), some (.lst (bits v)), some (.imm (bP b)), none, none, none])) (fun R hR => ?_) fun q hq => ?_
  · simp -implicitDefEqProofs [hl]
    exact hR _ rfl
  subst hq
  refine wp_seq (fun q => q = (.nx, [some (.imm (.tup (bits d))), some (.lst (bits v)), some (.imm (bP b)), some (.lst (bits (false :: v.dropLast))), none, none])) (fun R hR => ?_) fun q hq => ?_
  · simp -implicitDefEqProofs [h2, h3, h5]
    exact hR _ rfl
  subst hq
  generalize hN : false :: v.dropLast = N at *
  have hNl : N.length = r := by rw [← hN]; simp [hv]; omega
  cases b with
  | false =>
    simp -implicitDefEqProofs [e1, asgTs, asgT]
  | true =>
    rw [if_pos rfl]
    simp -implicitDefEqProofs [e1, it_zipLT]
    refine wp_comp (fun i acc e => acc = bits ((xh N d).take i) ∧ e = [some (.imm (.tup (bits d))), some (.lst (bits v)), some (.imm (bP true)), some (.lst (bits N)), none, none]) ⟨rfl, rfl⟩ (fun i p acc e hp hi => ?_) (fun acc e hi => ?_)
    · obtain ⟨rfl, rfl⟩ := hi
      obtain ⟨x, y, hx, hy, rfl⟩ := zip_get hp
      obtain ⟨a, ha, rfl⟩ := bits_get hx
      obtain ⟨c, hc, rfl⟩ := bits_get hy
      have hlen : (bits ((xh N d).take i)).length < line := lt_lineN (by rw [bits_len, List.length_take, xh_len]; omega)
      have hx := so_xorB a c
      simp -implicitDefEqProofs [stepCc, hx, hlen]
      rw [xh_take_succ N d i a c ha hc, bits_app] <;> rfl
    · obtain ⟨rfl, rfl⟩ := hi
      have e : (List.map (fun q : P × P => P.tup [q.1, q.2]) ((bits N).zip (bits d))).length = r := by
        rw [List.length_map, List.length_zip, bits_len, bits_len]
        omega
      rw [e, List.take_of_length_le (by rw [xh_len]; omega)]
      simp -implicitDefEqProofs [asgTs, asgT]
end Sw.k43
namespace Sw.k43
theorem bits_inj {u v : List Bool} (h : bits u = bits v) : u = v := by
  unfold bits at h
  induction u generalizing v with
  | nil => cases v <;> first | rfl | cases h
  | cons a u ih =>
    cases v with
    | nil => cases h
    | cons b v =>
      rw [List.map_cons, List.map_cons, List.cons.injEq] at h
      rw [ih h.2]
      have : bP a = bP b := h.1
      cases a <;> cases b <;> first | rfl | exact absurd this (by decide)
theorem peqs_bits : ∀ u v : List Bool, peqs (bits u) (bits v) = decide (u = v)
  | [], [] => rfl
  | [], b :: v => rfl
  | a :: u, [] => rfl
  | a :: u, b :: v => by
    show (peq (bP a) (bP b) && peqs (bits u) (bits v)) = _
    rw [peqs_bits u v]
    cases a <;> cases b <;> simp [bP, peq]
theorem depths_bits : ∀ u : List Bool, depths (bits u) = 0
  | [] => rfl
  | a :: u => by
    show max (depth (bP a)) (depths (bits u)) = 0
    rw [depths_bits u]
    rfl
theorem so_neBits (u v : List Bool) : opSem .ne [.lst (bits u), .lst (bits v)] = some (.imm (.bl (!decide (u = v)))) := by
  simp only [opSem, cmpEq, rd, depth, depths_bits]
  rw [if_pos (by decide)]
  simp only [Option.bind_some, peq, peqs_bits]
  rfl
theorem one_is {d : List Bool} {r : Nat} (h0 : 0 < r) : res d r [true] = one r := by
  have := res_unit (d := d) h0 0 0
  simp [zs] at this
  exact this
/-- the order -/
theorem c_order (k : Nat) (d : List Bool) (r o : Nat) (hd : d.length = r + 1) (h0 : 0 < r) (hr : r ≤ 400) (ho : ord d = some o) :
    callF prog G (k + 2) 5 [.imm (.tup (bits d))] = some (.imm (.int ((o + 1 : Nat) : Int)), [.imm (.tup (bits d))]) := by
  have hr1 : d.length - 1 = r := by omega
  unfold ord at ho
  rw [hr1, List.find?_range_eq_some] at ho
  obtain ⟨h1, h2, h3⟩ := ho
  have h1 : pw d r (o + 1) = pw d r 0 := eq_of_beq h1
  have h2 : o < 64 := by simpa using h2
  have h3 : ∀ j, j < o → pw d r (j + 1) ≠ pw d r 0 := fun j hj e => by
    have := h3 j hj
    rw [show one r = pw d r 0 from rfl, e] at this
    simp at this
  refine wp_is (call_wp (fn := f_order_of) rfl rfl ?_)
  simp only [f_order_of, b_order_of]
  have e1 : callF prog G (k + 1) 1 [.imm (.tup (bits d)), .imm (.tup [.int 1])] = some (.lst (bits (one r)), [.imm (.tup (bits d)), .imm (.tup [.int 1])]) := by
    have := c_rest k d [true] r hd h0 (by omega) (by simp)
    rwa [one_is h0] at this
  have hpl := pw_len (d := d) h0
  have e2 : ∀ m, callF prog G (k + 1) 4 [.imm (.tup (bits d)), .lst (bits (pw d r m))] = some (.lst (bits (pw d r (m + 1))), [.imm (.tup (bits d)), .lst (bits (pw d r m))]) := fun m => c_moved k d (pw d r m) r hd (hpl m) h0 hr
  have h5 : (1 : Nat) ≤ line := le_lineN (by omega)
  refine wp_seq (fun q => q = (.nx, [some (.imm (.tup (bits d))), some (.lst (bits (pw d r 0))), none, none])) (fun R hR => ?_) fun q hq => ?_
  · simp -implicitDefEqProofs [e1, h5]
    exact hR _ rfl
  subst hq
  refine wp_seq (fun q => q = (.nx, [some (.imm (.tup (bits d))), some (.lst (bits (pw d r 0))), some (.lst (bits (pw d r 1))), none])) (fun R hR => ?_) fun q hq => ?_
  · simp -implicitDefEqProofs [e2 0]
    exact hR _ rfl
  subst hq
  refine wp_seq (fun q => q = (.nx, [some (.imm (.tup (bits d))), some (.lst (bits (pw d r 0))), some (.lst (bits (pw d r 1))), some (.imm (.int 1))])) (fun R hR => ?_) fun q hq => ?_
  · simp -implicitDefEqProofs
    exact hR _ rfl
  subst hq
  refine wp_seq (fun q => ∃ x, q = (.nx, [some (.imm (.tup (bits d))), some (.lst (bits (pw d r 0))), x, some (.imm (.int ((o + 1 : Nat) : Int)))])) (fun R hR => ?_) fun q hq => ?_
  · rw [sx_whl]
    refine wp_whl (fun m e => ∃ j, j + m = o ∧ e = [some (.imm (.tup (bits d))), some (.lst (bits (pw d r 0))), some (.lst (bits (pw d r (j + 1)))), some (.imm (.int ((j + 1 : Nat) : Int)))]) (m := o) ⟨0, by omega, rfl⟩ (by unfold FUEL; omega) (fun m e he => ?_)
    obtain ⟨j, hj, rfl⟩ := he
    by_cases hm : m = 0
    · subst hm
      have hjo : j = o := by omega
      subst hjo
      have hne := so_neBits (pw d r (j + 1)) (pw d r 0)
      rw [decide_eq_true h1] at hne
      simp -implicitDefEqProofs [stepWw, hne]
      exact hR _ ⟨_, by simp; rfl⟩
    · have hne := so_neBits (pw d r (j + 1)) (pw d r 0)
      rw [decide_eq_false (h3 j (by omega))] at hne
      refine wp_stepT (e' := [some (.imm (.tup (bits d))), some (.lst (bits (pw d r 0))), some (.lst (bits (pw d r (j + 1)))), some (.imm (.int ((j + 1 : Nat) : Int)))]) ?_ ?_
      · unfold tst
        simp -implicitDefEqProofs [hne]
      · refine wp_seq (fun q => q = (.nx, [some (.imm (.tup (bits d))), some (.lst (bits (pw d r 0))), some (.lst (bits (pw d r (j + 1 + 1)))), some (.imm (.int ((j + 1 : Nat) : Int)))])) (fun R hR => ?_) fun q hq => ?_
        · simp -implicitDefEqProofs [e2 (j + 1)]
          exact hR _ (by simp)
        subst hq
        simp -implicitDefEqProofs
        exact ⟨m - 1, by omega, j + 1, by omega, by simp⟩
  obtain ⟨x, rfl⟩ := hq
  simp -implicitDefEqProofs [asgTs, asgT]
end Sw.k43
namespace Sw.k43
def numF (acc : Nat) (l : List Bool) : Nat := l.foldl (fun n b => 2 * n + b.toNat) acc
theorem numF_rev : ∀ v : List Bool, numF 0 v.reverse = num v
  | [] => rfl
  | b :: v => by
    unfold numF
    rw [List.reverse_cons, List.foldl_append]
    show 2 * numF 0 v.reverse + b.toNat = b.toNat + 2 * num v
    rw [numF_rev v]
    omega
theorem numF_take {l : List Bool} {i : Nat} {b : Bool} (h : l[i]? = some b) : numF 0 (l.take (i + 1)) = 2 * numF 0 (l.take i) + b.toNat := by
  unfold numF
  rw [List.take_add_one, h, List.foldl_append] <;> rfl
theorem so_revL (ps : List P) : opSem .rev [.lst ps] = some (.lst ps.reverse) := rfl
theorem bits_rev (v : List Bool) : (bits v).reverse = bits v.reverse := by unfold bits; rw [List.map_reverse]
theorem nat2_app (a b : List Nat) : nat2 a ++ nat2 b = nat2 (a ++ b) := by unfold nat2; rw [List.map_append]
theorem c_powers (k : Nat) (d : List Bool) (r n : Nat) (hd : d.length = r + 1) (h0 : 0 < r) (hr : r ≤ 400) (hn : n ≤ 400) :
    callF prog G (k + 2) 6 [.imm (.tup (bits d)), .imm (.int n)] = some (.lst (nat2 (tabOf d n)), [.imm (.tup (bits d)), .imm (.int n)]) := by
  refine wp_is (call_wp (fn := f_powers) rfl rfl ?_)
  simp only [f_powers, b_powers]
  have hr1 : d.length - 1 = r := by omega
  have e1 : callF prog G (k + 1) 1 [.imm (.tup (bits d)), .imm (.tup [.int 1])] = some (.lst (bits (pw d r 0)), [.imm (.tup (bits d)), .imm (.tup [.int 1])]) := by
    have := c_rest k d [true] r hd h0 (by omega) (by simp)
    rwa [one_is h0] at this
  have hpl := pw_len (d := d) h0
  have e2 : ∀ m, callF prog G (k + 1) 4 [.imm (.tup (bits d)), .lst (bits (pw d r m))] = some (.lst (bits (pw d r (m + 1))), [.imm (.tup (bits d)), .lst (bits (pw d r m))]) := fun m => c_moved k d (pw d r m) r hd (hpl m) h0 hr
  have h5 : (1 : Nat) ≤ line := le_lineN (by omega)
  have h6 : (0 : Nat) ≤ line := le_lineN (by omega)
  refine wp_seq (fun q => q = (.nx, [some (.imm (.tup (bits d))), some (.imm (.int n)), some (.lst (nat2 [])), none, none, none, none])) (fun R hR => ?_) fun q hq => ?_
  · simp -implicitDefEqProofs [h6]
    exact hR _ rfl
  subst hq
  refine wp_seq (fun q => q = (.nx, [some (.imm (.tup (bits d))), some (.imm (.int n)), some (.lst (nat2 [])), some (.lst (bits (pw d r 0))), none, none, none])) (fun R hR => ?_) fun q hq => ?_
  · simp -implicitDefEqProofs [e1, h5]
    exact hR _ rfl
  subst hq
  refine wp_seq (fun q => ∃ x3 x4 x5 x6, q = (.nx, [some (.imm (.tup (bits d))), some (.imm (.int n)), some (.lst (nat2 (tabOf d n))), x3, x4, x5, x6])) (fun R hR => ?_) fun q hq => ?_
  · simp -implicitDefEqProofs [it_rng1 (show n ≤ 1000000 by omega)]
    refine wp_for (fun i e => ∃ x4 x5 x6, i ≤ n ∧ e = [some (.imm (.tup (bits d))), some (.imm (.int n)), some (.lst (nat2 (tabOf d i))), some (.lst (bits (pw d r i))), x4, x5, x6]) ⟨none, none, none, Nat.zero_le _, rfl⟩ (fun i p e hp hi => ?_) (fun e hi => ?_)
    · obtain ⟨x4, x5, x6, hin, rfl⟩ := hi
      obtain ⟨hlt, rfl⟩ := rng_get hp
      have ht : tabOf d (i + 1) = tabOf d i ++ [num (pw d r i)] := by
        unfold tabOf
        rw [List.range_succ, List.map_append, hr1] <;> rfl
      have htl : (nat2 (tabOf d i)).length < line := lt_lineN (by rw [nat2_len]; simp [tabOf]; omega)
      have e2i := e2 i
      have hvl := hpl i
      rw [ht]
      generalize pw d r i = v at *
      simp -implicitDefEqProofs only [stepFf, sx_bp1, Option.bind_some, List.set_cons_succ, List.set_cons_zero]
      refine wp_seq (fun q => q = (.nx, [some (.imm (.tup (bits d))), some (.imm (.int n)), some (.lst (nat2 (tabOf d i))), some (.lst (bits v)), some (.imm (.int i)), some (.imm (.int 0)), x6])) (fun R hR => ?_) fun q hq => ?_
      · simp -implicitDefEqProofs
        exact hR _ rfl
      subst hq
      refine wp_seq (fun q => ∃ x6, q = (.nx, [some (.imm (.tup (bits d))), some (.imm (.int n)), some (.lst (nat2 (tabOf d i))), some (.lst (bits v)), some (.imm (.int i)), some (.imm (.int (num v : Nat))), x6])) (fun R hR => ?_) fun q hq => ?_
      · simp -implicitDefEqProofs [so_revL, bits_rev]
        refine wp_for (fun j e => ∃ x6, e = [some (.imm (.tup (bits d))), some (.imm (.int n)), some (.lst (nat2 (tabOf d i))), some (.lst (bits v)), some (.imm (.int i)), some (.imm (.int (numF 0 (v.reverse.take j) : Nat))), x6]) ⟨x6, rfl⟩ (fun j p e hp hi => ?_) (fun e hi => ?_)
        · obtain ⟨x6, rfl⟩ := hi
          obtain ⟨b, hb, rfl⟩ := bits_get hp
          rw [numF_take hb]
          generalize numF 0 (v.reverse.take j) = a
          have hm : opSem .mul [.imm (.int 2), .imm (.int (a : Int))] = some (.imm (.int (2 * (a : Int)))) := so_mul (mul_l (by decide))
          have ha : opSem .add [.imm (.int (2 * (a : Int))), .imm (bP b)] = some (.imm (.int ((2 * a + b.toNat : Nat) : Int))) := by
            cases b
            · show some (D.imm (.int (2 * (a : Int) + 0))) = _
              simp
            · show some (D.imm (.int (2 * (a : Int) + 1))) = _
              simp
          generalize 2 * a + b.toNat = c at *
          simp -implicitDefEqProofs [stepFf, hm, ha]
        · obtain ⟨x6, rfl⟩ := hi
          rw [bits_len, List.take_length, numF_rev]
          exact hR _ ⟨x6, rfl⟩
      obtain ⟨x6, rfl⟩ := hq
      simp -implicitDefEqProofs [mu_app htl, e2i]
      exact ⟨hlt, by rw [nat2_snoc]⟩
    · obtain ⟨x4, x5, x6, hin, rfl⟩ := hi
      rw [List.length_map, List.length_range]
      exact hR _ ⟨_, _, _, _, rfl⟩
  obtain ⟨x3, x4, x5, x6, rfl⟩ := hq
  simp -implicitDefEqProofs [asgTs, asgT]
def opP : Option (List Nat) → P
  | some ps => .tup (nat2 ps)
  | none => .non
theorem so_xorN (a b : Nat) : opSem .xor [.imm (.int a), .imm (.int b)] = some (.imm (.int ((a ^^^ b : Nat) : Int))) := by
  show ii (PySem.Builtin.bitXor (a : Int) (b : Int)) = _
  rw [Bits.bitXor_pp (by omega) (by omega), Int.toNat_natCast, Int.toNat_natCast] <;> rfl
theorem last_nat2 {ch : List Nat} (h : ch ≠ []) : ∃ l, atP (nat2 ch) (-1) = some (.int (l : Nat)) ∧ nxt ch = l + 1 := by
  rcases List.eq_nil_or_concat ch with rfl | ⟨u, l, rfl⟩
  · exact absurd rfl h
  · rw [List.concat_eq_append]
    refine ⟨l, ?_, ?_⟩
    · rw [at_last (by unfold nat2; simp)]
      unfold nat2
      simp
    · unfold nxt
      rw [List.getLast?_concat]
theorem isNon_op (o : Option (List Nat)) : decide (D.imm (opP o) = .imm .non) = o.isNone := by
  cases o with
  | none => rfl
  | some ps => exact decide_eq_false (fun h => by cases h)
theorem c_first (T : List Nat) (hT : T.length ≤ 400) : ∀ (m k : Nat) (ch : List Nat) (left : Nat), ch ≠ [] → nxt ch ≤ 1000 → ch.length + m ≤ 400 →
    callF prog G (k + m + 1) 7 [.lst (nat2 T), .imm (.tup (nat2 ch)), .imm (.int left), .imm (.int m)] = some (.imm (opP (fpl T.length T m ch left)), [.lst (nat2 T), .imm (.tup (nat2 ch)), .imm (.int left), .imm (.int m)]) := by
  intro m
  induction m with
  | zero =>
    intro k ch left hne hnx hl
    refine wp_is (call_wp (fn := f_first_places) rfl rfl ?_)
    simp only [f_first_places, b_first_places]
    by_cases hz : left = 0
    · subst hz
      simp -implicitDefEqProofs [fpl, opP, asgTs, asgT]
    · simp -implicitDefEqProofs [fpl, opP, hz, asgTs, asgT]
  | succ m ih =>
    intro k ch left hne hnx hl
    refine wp_is (call_wp (fn := f_first_places) rfl rfl ?_)
    simp only [f_first_places, b_first_places]
    obtain ⟨l, h1, h2⟩ := last_nat2 hne
    have hm0 : ¬ (((m + 1 : Nat) : Int) = 0) := by omega
    have hfp : fpl T.length T (m + 1) ch left = (List.range' (l + 1) (T.length - m - (l + 1))).findSome? fun p => fpl T.length T m (ch ++ [p]) (left ^^^ T.getD p 0) := by
      show (List.range' (nxt ch) (T.length - m - nxt ch)).findSome? _ = _
      rw [h2]
    rw [hfp]
    refine wp_seq (fun q => q = (.nx, [some (.lst (nat2 T)), some (.imm (.tup (nat2 ch))), some (.imm (.int left)), some (.imm (.int ((m + 1 : Nat) : Int))), none, none])) (fun R hR => ?_) fun q hq => ?_
    · generalize hM : ((m + 1 : Nat) : Int) = M at *
      simp -implicitDefEqProofs [hm0]
      exact hR _ rfl
    subst hq
    refine wp_seq (fun q => (∃ ps x4 x5, (List.range' (l + 1) (T.length - m - (l + 1))).findSome? (fun p => fpl T.length T m (ch ++ [p]) (left ^^^ T.getD p 0)) = some ps ∧ q = (.rt (.imm (opP (some ps))), [some (.lst (nat2 T)), some (.imm (.tup (nat2 ch))), some (.imm (.int left)), some (.imm (.int ((m + 1 : Nat) : Int))), x4, x5])) ∨
      (∃ x4 x5, (List.range' (l + 1) (T.length - m - (l + 1))).findSome? (fun p => fpl T.length T m (ch ++ [p]) (left ^^^ T.getD p 0)) = none ∧ q = (.nx, [some (.lst (nat2 T)), some (.imm (.tup (nat2 ch))), some (.imm (.int left)), some (.imm (.int ((m + 1 : Nat) : Int))), x4, x5]))) (fun R hR => ?_) fun q hq => ?_
    · have hbig : l ≤ 1000 := by omega
      · have hit := it_rng2 (i := (l : Int) + 1) (j := (T.length : Int) - ((m + 1 : Nat) : Int) + 1) (by omega)
        have hcnt : ((T.length : Int) - ((m + 1 : Nat) : Int) + 1 - ((l : Int) + 1)).toNat = T.length - m - (l + 1) := by omega
        rw [hcnt] at hit
        have hmm : ((m + 1 : Nat) : Int) - 1 = (m : Int) := by omega
        generalize hM : ((m + 1 : Nat) : Int) = M at *
        generalize hN : T.length - m - (l + 1) = N at *
        simp -implicitDefEqProofs [h1, hit, nat2_len]
        refine wp_for (fun i e => ∃ x4 x5, i ≤ N ∧ (List.range' (l + 1) i).findSome? (fun p => fpl T.length T m (ch ++ [p]) (left ^^^ T.getD p 0)) = none ∧ e = [some (.lst (nat2 T)), some (.imm (.tup (nat2 ch))), some (.imm (.int left)), some (.imm (.int M)), x4, x5]) ⟨none, none, Nat.zero_le _, rfl, rfl⟩ (fun i p e hp hi => ?_) (fun e hi => ?_)
        · obtain ⟨x4, x5, hiN, hno, rfl⟩ := hi
          have hlt : i < N := by
            have := (List.getElem?_eq_some_iff.mp hp).1
            simpa using this
          obtain rfl : p = .int ((l : Int) + 1 + (i : Int)) := by
            rw [List.getElem?_map, List.getElem?_range hlt] at hp
            exact (Option.some.inj hp).symm
          obtain ⟨q, hq⟩ : ∃ q : Nat, q = l + 1 + i := ⟨_, rfl⟩
          have hqi : (l : Int) + 1 + (i : Int) = (q : Int) := by omega
          have hqT : q < T.length := by omega
          rw [hqi]
          have hat : atP (nat2 T) (q : Int) = some (.int (T.getD q 0 : Nat)) := nat2_get (by rw [List.getD_eq_getElem?_getD, List.getElem?_eq_getElem hqT] <;> rfl)
          have hx := so_xorN left (T.getD q 0)
          have hadd : opSem .add [.imm (.tup (nat2 ch)), .imm (.tup [.int (q : Int)])] = some (.imm (.tup (nat2 (ch ++ [q])))) := by
            rw [so_addt (le_lineN (by rw [nat2_len]; simp; omega)), nat2_snoc]
          have hrec := ih k (ch ++ [q]) (left ^^^ T.getD q 0) (by simp) (by unfold nxt; rw [List.getLast?_concat]; show q + 1 ≤ 1000; omega) (by simp; omega)
          have hrec : callF prog G (k + (m + 1)) 7 [.lst (nat2 T), .imm (.tup (nat2 (ch ++ [q]))), .imm (.int ((left ^^^ T.getD q 0 : Nat) : Int)), .imm (.int m)] = some (.imm (opP (fpl T.length T m (ch ++ [q]) (left ^^^ T.getD q 0))), [.lst (nat2 T), .imm (.tup (nat2 (ch ++ [q]))), .imm (.int ((left ^^^ T.getD q 0 : Nat) : Int)), .imm (.int m)]) := by
            rw [show k + (m + 1) = k + m + 1 by omega]; exact hrec
          have h5 : (1 : Nat) ≤ line := le_lineN (by omega)
          have hstep : (List.range' (l + 1) (i + 1)).findSome? (fun p => fpl T.length T m (ch ++ [p]) (left ^^^ T.getD p 0)) = fpl T.length T m (ch ++ [q]) (left ^^^ T.getD q 0) := by
            rw [List.range'_concat, List.findSome?_append, hno, hq]
            simp
          have hfull : ∀ ps, fpl T.length T m (ch ++ [q]) (left ^^^ T.getD q 0) = some ps → (List.range' (l + 1) N).findSome? (fun p => fpl T.length T m (ch ++ [p]) (left ^^^ T.getD p 0)) = some ps := fun ps hps => by
            have e := @List.range'_append_1 (l + 1) (i + 1) (N - (i + 1))
            rw [show i + 1 + (N - (i + 1)) = N by omega] at e
            rw [← e, List.findSome?_append, hstep, hps]
            rfl
          generalize fpl T.length T m (ch ++ [q]) (left ^^^ T.getD q 0) = res at *
          generalize T.getD q 0 = tq at *
          generalize ((left ^^^ tq : Nat) : Int) = xq at *
          have hnn := isNon_op res
          simp -implicitDefEqProofs only [stepFf, sx_bp1, Option.bind_some, List.set_cons_succ, List.set_cons_zero]
          refine wp_seq (fun z => z = (.nx, [some (.lst (nat2 T)), some (.imm (.tup (nat2 ch))), some (.imm (.int left)), some (.imm (.int M)), some (.imm (.int q)), some (.imm (opP res))])) (fun R' hR' => ?_) fun z hz => ?_
          · simp -implicitDefEqProofs [hat, hx, hadd, hrec, h5, hmm]
            exact hR' _ rfl
          subst hz
          cases res with
          | none =>
            simp -implicitDefEqProofs [hnn, opP]
            exact ⟨hlt, by simpa using hstep⟩
          | some ps =>
            have e : decide (D.imm (opP (some ps)) = .imm .non) = false := hnn
            simp -implicitDefEqProofs [opP]
            exact hR _ (.inl ⟨ps, _, _, hfull ps rfl, rfl⟩)
        · obtain ⟨x4, x5, hiN, hno, rfl⟩ := hi
          rw [List.length_map, List.length_range] at hno
          exact hR _ (.inr ⟨x4, x5, hno, rfl⟩)
    rcases hq with ⟨ps, x4, x5, hf, rfl⟩ | ⟨x4, x5, hf, rfl⟩
    · rw [hf]
      simp -implicitDefEqProofs [asgTs, asgT]
    · rw [hf]
      simp -implicitDefEqProofs [asgTs, asgT, opP]
end Sw.k43
namespace Sw.k43
theorem tab_len (d : List Bool) (n : Nat) : (tabOf d n).length = n := by simp [tabOf]
theorem find_step {α β : Type} (f : α → Option β) (l : List α) (a : α) (h : l.findSome? f = none) : (l ++ [a]).findSome? f = f a := by
  rw [List.findSome?_append, h]
  simp
theorem find_pre {α β : Type} (f : α → Option β) (l m : List α) (b : β) (h : l.findSome? f = some b) : (l ++ m).findSome? f = some b := by
  rw [List.findSome?_append, h] <;> rfl
theorem range_pre {i n : Nat} (h : i ≤ n) : ∃ l, List.range n = List.range i ++ l := by
  refine ⟨(List.range n).drop i, ?_⟩
  rw [← List.take_append_drop i (List.range n), List.take_range]
  simp [Nat.min_eq_left h]
theorem c_least (k : Nat) (d : List Bool) (r n : Nat) (hd : d.length = r + 1) (h0 : 0 < r) (hr : r ≤ 400) (hn0 : 0 < n) (hn : n ≤ 300) :
    callF prog G (k + n + 2) 8 [.imm (.tup (bits d)), .imm (.int n)] = some (.imm (opP (least (tabOf d n) n)), [.imm (.tup (bits d)), .imm (.int n)]) := by
  refine wp_is (call_wp (fn := f_least_places) rfl rfl ?_)
  simp only [f_least_places, b_least_places]
  have e1 : callF prog G (k + n + 1) 6 [.imm (.tup (bits d)), .imm (.int n)] = some (.lst (nat2 (tabOf d n)), [.imm (.tup (bits d)), .imm (.int n)]) := by
    rw [show k + n + 1 = (k + n - 1) + 2 by omega]
    exact c_powers _ d r n hd h0 hr (by omega)
  have hTl := tab_len d n
  generalize tabOf d n = T at *
  have hle : least T n = (List.range n).findSome? fun m => fpl n T m [0] (T.getD 0 0) := rfl
  have h5 : (1 : Nat) ≤ line := le_lineN (by omega)
  have hat : atP (nat2 T) 0 = some (.int (T.getD 0 0 : Nat)) := nat2_get (j := 0) (by rw [List.getD_eq_getElem?_getD, List.getElem?_eq_getElem (show 0 < T.length by omega)] <;> rfl)
  refine wp_seq (fun q => q = (.nx, [some (.imm (.tup (bits d))), some (.imm (.int n)), some (.lst (nat2 T)), none, none])) (fun R hR => ?_) fun q hq => ?_
  · simp -implicitDefEqProofs [e1]
    exact hR _ rfl
  subst hq
  rw [hle]
  generalize hF : (fun m => fpl n T m [0] (T.getD 0 0)) = f
  have hrec : ∀ m, m < n → callF prog G (k + n + 1) 7 [.lst (nat2 T), .imm (.tup [.int 0]), .imm (.int (T.getD 0 0 : Nat)), .imm (.int m)] = some (.imm (opP (f m)), [.lst (nat2 T), .imm (.tup [.int 0]), .imm (.int (T.getD 0 0 : Nat)), .imm (.int m)]) := fun m hm => by
    have := c_first T (by omega) m (k + n - m) [0] (T.getD 0 0) (by simp) (by decide) (by simp; omega)
    rw [show k + n - m + m + 1 = k + n + 1 by omega, hTl] at this
    rw [← hF]
    exact this
  generalize T.getD 0 0 = t0 at *
  refine wp_seq (fun q => (∃ ps x3 x4, (List.range n).findSome? f = some ps ∧ q = (.rt (.imm (opP (some ps))), [some (.imm (.tup (bits d))), some (.imm (.int n)), some (.lst (nat2 T)), x3, x4])) ∨
      ∃ x3 x4, (List.range n).findSome? f = none ∧ q = (.nx, [some (.imm (.tup (bits d))), some (.imm (.int n)), some (.lst (nat2 T)), x3, x4])) (fun R hR => ?_) fun q hq => ?_
  · have hit := it_rng2 (i := 1) (j := (n : Int) + 1) (by omega)
    rw [show ((n : Int) + 1 - 1).toNat = n by omega] at hit
    simp -implicitDefEqProofs [hit]
    refine wp_for (fun i e => ∃ x3 x4, i ≤ n ∧ (List.range i).findSome? f = none ∧ e = [some (.imm (.tup (bits d))), some (.imm (.int n)), some (.lst (nat2 T)), x3, x4]) ⟨none, none, Nat.zero_le _, rfl, rfl⟩ (fun i p e hp hi => ?_) (fun e hi => ?_)
    · obtain ⟨x3, x4, hin, hno, rfl⟩ := hi
      have hlt : i < n := by
        have := (List.getElem?_eq_some_iff.mp hp).1
        simpa using this
      obtain rfl : p = .int (1 + (i : Int)) := by
        rw [List.getElem?_map, List.getElem?_range hlt] at hp
        exact (Option.some.inj hp).symm
      have hmm : (1 : Int) + (i : Int) - 1 = (i : Int) := by omega
      have hri := hrec i hlt
      have hstep : (List.range (i + 1)).findSome? f = f i := by rw [List.range_succ]; exact find_step f _ _ hno
      generalize hz : f i = z at *
      have hnn := isNon_op z
      simp -implicitDefEqProofs only [stepFf, sx_bp1, Option.bind_some, List.set_cons_succ, List.set_cons_zero]
      refine wp_seq (fun q => q = (.nx, [some (.imm (.tup (bits d))), some (.imm (.int n)), some (.lst (nat2 T)), some (.imm (.int (1 + (i : Int)))), some (.imm (opP z))])) (fun R' hR' => ?_) fun q hq => ?_
      · simp -implicitDefEqProofs [hat, hri, h5, hmm]
        exact hR' _ rfl
      subst hq
      cases z with
      | none =>
        simp -implicitDefEqProofs [hnn, opP]
        exact ⟨hlt, by simpa using hstep⟩
      | some ps =>
        simp -implicitDefEqProofs [opP]
        obtain ⟨l, hl⟩ := range_pre (show i + 1 ≤ n from hlt)
        exact hR _ (.inl ⟨ps, _, _, by rw [hl]; exact find_pre f _ _ _ hstep, rfl⟩)
    · obtain ⟨x3, x4, hin, hno, rfl⟩ := hi
      rw [List.length_map, List.length_range] at hno
      exact hR _ (.inr ⟨x3, x4, hno, rfl⟩)
  rcases hq with ⟨ps, x3, x4, hf, rfl⟩ | ⟨x3, x4, hf, rfl⟩
  · rw [hf]
    simp -implicitDefEqProofs [asgTs, asgT]
  · rw [hf]
    simp -implicitDefEqProofs [asgTs, asgT, opP]
/-! ### kinds and papers -/
def pair : List Nat := [112, 97, 105, 114]
def odd : List Nat := [111, 100, 100]
def burst : List Nat := [98, 117, 114, 115, 116]
def caught : List Nat := [99, 97, 117, 103, 104, 116]
def missedS : List Nat := [109, 105, 115, 115, 101, 100]
/-- the kind as a value: 0 pair, 1 odd, 2 burst b -/
def kindP : Nat → Nat → P
  | 0, _ => .tup [.str pair]
  | 1, _ => .tup [.str odd]
  | _, b => .tup [.str burst, .int b]
def caughtP : P := .tup [.str caught]
def missP (ps : List Nat) : P := .tup [.str missedS, .tup (nat2 ps)]
/-- what divided_paper tells -/
def paper (d : List Bool) (n r : Nat) : Nat → Nat → P
  | 0, _ => (match ord d with
    | some o => if o + 1 < n then missP [0, o + 1] else caughtP
    | none => .non)
  | 1, _ => if (placesOf d).length % 2 = 1 ∧ r < n then missP (placesOf d) else caughtP
  | _, b => if min b n ≤ r then caughtP else .tup [.str missedS, opP (least (tabOf d (min b n)) (min b n))]
theorem at1 {a : P} : atP [a] 0 = some a := at_nat (i := 0) (by simp)
theorem at2 {a b : P} : atP [a, b] 0 = some a ∧ atP [a, b] 1 = some b := ⟨at_nat (i := 0) (by simp), at_nat (i := 1) (by simp)⟩
theorem bits_ge {d : List Bool} {i : Nat} {b : Bool} (h : d[i]? = some b) : d.getD i false = b := by rw [List.getD_eq_getElem?_getD, h] <;> rfl
theorem c_paper (k : Nat) (d : List Bool) (r n kd b o : Nat) (hd : d.length = r + 1) (h0 : 0 < r) (hr : r ≤ 400) (hn0 : 0 < n) (hn : n ≤ 100) (hb0 : 0 < b) (hb : b ≤ 100) (ho : ord d = some o) :
    callF prog G (k + 110) 9 [.imm (.tup (bits d)), .imm (.int n), .imm (kindP kd b)] = some (.imm (paper d n r kd b), [.imm (.tup (bits d)), .imm (.int n), .imm (kindP kd b)]) := by
  refine wp_is (call_wp (k := k + 109) (fn := f_divided_paper) rfl rfl ?_)
  simp only [f_divided_paper, b_divided_paper]
  have e : ((d.length : Nat) : Int) - 1 = r := by omega
  have h2 : (2 : Nat) ≤ line := le_lineN (by omega)
  have h1 : (1 : Nat) ≤ line := le_lineN (by omega)
  have h3 : (0 : Nat) ≤ line := le_lineN (by omega)
  refine wp_seq (fun q => q = (.nx, [some (.imm (.tup (bits d))), some (.imm (.int n)), some (.imm (kindP kd b)), some (.imm (.int r)), none, none, none, none, none])) (fun R hR => ?_) fun q hq => ?_
  · simp -implicitDefEqProofs [bits_len, e]
    exact hR _ rfl
  subst hq
  match kd with
  | 0 =>
    have e5 : callF prog G (k + 109) 5 [.imm (.tup (bits d))] = some (.imm (.int ((o + 1 : Nat) : Int)), [.imm (.tup (bits d))]) := c_order (k + 107) d r o hd h0 hr ho
    have hpap : paper d n r 0 b = if o + 1 < n then missP [0, o + 1] else caughtP := by
      show (match ord d with | some o => if o + 1 < n then missP [0, o + 1] else caughtP | none => .non) = _
      rw [ho]
    have hki : opSem .idx [.imm (kindP 0 b), .imm (.int 0)] = some (.imm (.str pair)) := by
      rw [show kindP 0 b = .tup [.str pair] from rfl, so_idxT, at1] <;> rfl
    rw [hpap]
    by_cases hc : o + 1 < n
    · have hc' : ((o : Int) + 1 < (n : Int)) := by omega
      simp -implicitDefEqProofs [hki, pair, e5, hc, hc', h1, h2, missP, missedS, nat2, asgTs, asgT]
    · have hc' : ¬ ((o : Int) + 1 < (n : Int)) := by omega
      simp -implicitDefEqProofs [hki, pair, e5, hc, hc', h1, h2, caughtP, caught, asgTs, asgT]
  | 1 =>
    have hki : opSem .idx [.imm (kindP 1 b), .imm (.int 0)] = some (.imm (.str odd)) := by
      rw [show kindP 1 b = .tup [.str odd] from rfl, so_idxT, at1] <;> rfl
    generalize hK : kindP 1 b = K at *
    refine wp_seq (fun q => q = (.nx, [some (.imm (.tup (bits d))), some (.imm (.int n)), some (.imm K), some (.imm (.int r)), none, none, none, none, none])) (fun R hR => ?_) fun q hq => ?_
    · simp -implicitDefEqProofs [hki, odd]
      exact hR _ rfl
    subst hq
    have hpl : (placesOf d).length ≤ 1000 := by
      unfold placesOf
      exact Nat.le_trans (List.length_filter_le _ _) (by rw [List.length_range]; omega)
    have htu : opSem .tuple [.lst (nat2 (placesOf d))] = some (.imm (.tup (nat2 (placesOf d)))) := so_tupL (le_lineN (by rw [nat2_len]; omega))
    have hpap : paper d n r 1 b = if (placesOf d).length % 2 = 1 ∧ r < n then missP (placesOf d) else caughtP := rfl
    rw [hpap]
    simp -implicitDefEqProofs [hki, odd, it_enumT]
    refine wp_comp (fun i acc e => acc = nat2 ((List.range i).filter fun k => d.getD k false) ∧ i ≤ d.length ∧ e = [some (.imm (.tup (bits d))), some (.imm (.int n)), some (.imm K), some (.imm (.int r)), none, none, none, none, none]) ⟨rfl, Nat.zero_le _, rfl⟩ (fun i p acc e hp hi => ?_) (fun acc e hi => ?_)
    · obtain ⟨rfl, hil, rfl⟩ := hi
      obtain ⟨x, hx, rfl⟩ := enum_get hp
      obtain ⟨c, hc, rfl⟩ := bits_get hx
      have hlt : i < d.length := (List.getElem?_eq_some_iff.mp hc).1
      have hlen : (nat2 ((List.range i).filter fun k => d.getD k false)).length < line := lt_lineN (by
        rw [nat2_len]
        exact Nat.le_trans (List.length_filter_le _ _) (by rw [List.length_range]; omega))
      rw [List.range_succ, List.filter_append]
      have hdc := bits_ge hc
      cases c with
      | true =>
        have e1 : opSem .eq [.imm (bP true), .imm (.int 1)] = some (.imm (.bl true)) := so_eq1 true
        have hf : [i].filter (fun k => d.getD k false) = [i] := by simp only [List.filter, hdc]
        rw [hf, ← nat2_snoc]
        generalize nat2 ((List.range i).filter fun k => d.getD k false) = acc at *
        simp -implicitDefEqProofs [stepCc, e1, hlen]
        omega
      | false =>
        have e1 : opSem .eq [.imm (bP false), .imm (.int 1)] = some (.imm (.bl false)) := so_eq1 false
        have hf : [i].filter (fun k => d.getD k false) = [] := by simp only [List.filter, hdc]
        rw [hf, List.append_nil]
        generalize nat2 ((List.range i).filter fun k => d.getD k false) = acc at *
        simp -implicitDefEqProofs [stepCc, e1, hlen]
        omega
    · obtain ⟨rfl, hil, rfl⟩ := hi
      have el : (List.map (fun q : P × Nat => P.tup [.int (q.2 : Int), q.1]) (bits d).zipIdx).length = d.length := by rw [List.length_map, List.length_zipIdx, bits_len]
      rw [el]
      show wp _ _
      have hpo : (List.range d.length).filter (fun k => d.getD k false) = placesOf d := rfl
      rw [hpo]
      generalize placesOf d = pl at *
      have hmod : opSem .mod [.imm (.int ((pl.length : Nat) : Int)), .imm (.int 2)] = some (.imm (.int ((pl.length % 2 : Nat) : Int))) := by
        rw [so_mod (by decide)]
        congr 3
        rw [Int.fmod_eq_emod_of_nonneg _ (by omega)]
        rfl
      by_cases c1 : pl.length % 2 = 1
      · by_cases c2 : r < n
        · rw [if_pos ⟨c1, c2⟩]
          rw [c1] at hmod
          simp -implicitDefEqProofs [htu, nat2_len, hmod, c2, h2, missP, missedS, asgTs, asgT]
        · rw [if_neg (fun z => c2 z.2)]
          rw [c1] at hmod
          simp -implicitDefEqProofs [htu, nat2_len, hmod, c2, h1, caughtP, caught, asgTs, asgT]
      · have c1' : pl.length % 2 = 0 := by omega
        rw [if_neg (fun z => c1 z.1)]
        rw [c1'] at hmod
        simp -implicitDefEqProofs [htu, nat2_len, hmod, h1, caughtP, caught, asgTs, asgT]
  | kd + 2 =>
    have hki : opSem .idx [.imm (kindP (kd + 2) b), .imm (.int 0)] = some (.imm (.str burst)) := by
      rw [show kindP (kd + 2) b = .tup [.str burst, .int b] from rfl, so_idxT, at2.1] <;> rfl
    have hkb : opSem .idx [.imm (kindP (kd + 2) b), .imm (.int 1)] = some (.imm (.int b)) := by
      rw [show kindP (kd + 2) b = .tup [.str burst, .int b] from rfl, so_idxT, at2.2] <;> rfl
    have hpap : paper d n r (kd + 2) b = if min b n ≤ r then caughtP else .tup [.str missedS, opP (least (tabOf d (min b n)) (min b n))] := rfl
    rw [hpap]
    generalize hK : kindP (kd + 2) b = K at *
    refine wp_seq (fun q => q = (.nx, [some (.imm (.tup (bits d))), some (.imm (.int n)), some (.imm K), some (.imm (.int r)), none, none, none, none, none])) (fun R hR => ?_) fun q hq => ?_
    · simp -implicitDefEqProofs [hki, burst]
      exact hR _ rfl
    subst hq
    refine wp_seq (fun q => q = (.nx, [some (.imm (.tup (bits d))), some (.imm (.int n)), some (.imm K), some (.imm (.int r)), none, none, none, none, none])) (fun R hR => ?_) fun q hq => ?_
    · simp -implicitDefEqProofs [hki, burst]
      exact hR _ rfl
    subst hq
    have hmin : opSem .min2 [.imm (.int b), .imm (.int n)] = some (.imm (.int ((min b n : Nat) : Int))) := by
      rw [so_min, min_nat] <;> rfl
    obtain ⟨m, hm⟩ : ∃ m, m = min b n := ⟨_, rfl⟩
    rw [← hm] at hmin ⊢
    refine wp_seq (fun q => q = (.nx, [some (.imm (.tup (bits d))), some (.imm (.int n)), some (.imm K), some (.imm (.int r)), some (.imm (.int m)), none, none, none, none])) (fun R hR => ?_) fun q hq => ?_
    · simp -implicitDefEqProofs [hkb, hmin, -so_min]
      exact hR _ rfl
    subst hq
    by_cases hc : m ≤ r
    · simp -implicitDefEqProofs [hc, h1, caughtP, caught, asgTs, asgT]
    · have e8 : callF prog G (k + 109) 8 [.imm (.tup (bits d)), .imm (.int m)] = some (.imm (opP (least (tabOf d m) m)), [.imm (.tup (bits d)), .imm (.int m)]) := by
        have := c_least (k + 107 - m) d r m hd h0 hr (by omega) (by omega)
        rwa [show k + 107 - m + m + 2 = k + 109 by omega] at this
      simp -implicitDefEqProofs [hc, h2, e8, missedS, asgTs, asgT]
/-- the fewest of all -/
theorem c_least_missed (k : Nat) (d : List Bool) (r n : Nat) (ps : List Nat) (hd : d.length = r + 1) (h0 : 0 < r) (hr : r ≤ 400) (hn0 : 0 < n) (hn : n ≤ 100) (hl : least (tabOf d n) n = some ps) :
    callF prog G (k + 110) 12 [.imm (.tup (bits d)), .imm (.int n)] = some (.imm (.tup [.int ps.length, .tup (nat2 ps)]), [.imm (.tup (bits d)), .imm (.int n)]) := by
  refine wp_is (call_wp (k := k + 109) (fn := f_least_missed) rfl rfl ?_)
  simp only [f_least_missed, b_least_missed]
  have e8 : callF prog G (k + 109) 8 [.imm (.tup (bits d)), .imm (.int n)] = some (.imm (opP (least (tabOf d n) n)), [.imm (.tup (bits d)), .imm (.int n)]) := by
    have := c_least (k + 107 - n) d r n hd h0 hr (by omega) (by omega)
    rwa [show k + 107 - n + n + 2 = k + 109 by omega] at this
  rw [hl] at e8
  have h2 : (2 : Nat) ≤ line := le_lineN (by omega)
  simp -implicitDefEqProofs [e8, opP, nat2_len, h2, asgTs, asgT]
end Sw.k43
namespace Sw.k43
theorem asc_ends {ps : List Nat} (h : asc ps = true) (hne : ps ≠ []) : ∃ a z, atP (nat2 ps) 0 = some (.int (a : Nat)) ∧ atP (nat2 ps) (-1) = some (.int (z : Nat)) ∧ ps.getD 0 0 = a ∧ ps.getD (ps.length - 1) 0 = z ∧ a ≤ z := by
  have hl : 0 < ps.length := List.length_pos_iff.mpr hne
  have h0 : ps[0]? = some ps[0] := List.getElem?_eq_getElem hl
  have h1 : ps[ps.length - 1]? = some (ps[ps.length - 1]'(by omega)) := List.getElem?_eq_getElem (by omega)
  refine ⟨ps[0], ps[ps.length - 1]'(by omega), ?_, ?_, by rw [List.getD_eq_getElem?_getD, h0] <;> rfl, by rw [List.getD_eq_getElem?_getD, h1] <;> rfl, ?_⟩
  · exact nat2_get h0
  · rw [at_last (by unfold nat2; simpa using hne)]
    unfold nat2
    rw [List.length_map, List.getElem?_map, h1] <;> rfl
  · have hnx := asc_lt_nxt ps h ps[0] (List.getElem_mem hl)
    have : nxt ps = ps[ps.length - 1]'(by omega) + 1 := by
      unfold nxt
      rw [List.getLast?_eq_getElem?, h1]
    omega
theorem kp0 (b : Nat) : opSem .idx [.imm (kindP 0 b), .imm (.int 0)] = some (.imm (.str pair)) := by
  rw [show kindP 0 b = .tup [.str pair] from rfl, so_idxT, at1] <;> rfl
theorem kp1 (b : Nat) : opSem .idx [.imm (kindP 1 b), .imm (.int 0)] = some (.imm (.str odd)) := by
  rw [show kindP 1 b = .tup [.str odd] from rfl, so_idxT, at1] <;> rfl
theorem kp2 (kd b : Nat) : opSem .idx [.imm (kindP (kd + 2) b), .imm (.int 0)] = some (.imm (.str burst)) ∧ opSem .idx [.imm (kindP (kd + 2) b), .imm (.int 1)] = some (.imm (.int b)) := by
  rw [show kindP (kd + 2) b = .tup [.str burst, .int b] from rfl, so_idxT, so_idxT, at2.1, at2.2]
  exact ⟨rfl, rfl⟩
theorem mod_nat (m : Nat) : opSem .mod [.imm (.int ((m : Nat) : Int)), .imm (.int 2)] = some (.imm (.int ((m % 2 : Nat) : Int))) := by
  rw [so_mod (by decide)]
  congr 3
  rw [Int.fmod_eq_emod_of_nonneg _ (by omega)]
  rfl
theorem b_odd (m : Nat) : decide (((m % 2 : Nat) : Int) = 1) = (m % 2 == 1) := by
  by_cases h : m % 2 = 1
  · rw [h] <;> rfl
  · have : m % 2 = 0 := by omega
    rw [this] <;> rfl
theorem b_two (m : Nat) : decide (((m : Nat) : Int) = 2) = (m == 2) := by
  by_cases h : m = 2
  · subst h; rfl
  · rw [decide_eq_false (by omega), beq_eq_false_iff_ne.mpr h]
theorem c_kind (k kd b : Nat) (ps : List Nat) (ha : asc ps = true) (hne : ps ≠ []) : callF prog G (k + 1) 10 [.imm (.tup (nat2 ps)), .imm (kindP kd b)] = some (.imm (.bl (fits kd b ps)), [.imm (.tup (nat2 ps)), .imm (kindP kd b)]) := by
  refine wp_is (call_wp (fn := f_is_kind) rfl rfl ?_)
  simp only [f_is_kind, b_is_kind]
  match kd with
  | 0 =>
    have h := b_two ps.length
    rw [show fits 0 b ps = (ps.length == 2) from rfl, ← h]
    simp -implicitDefEqProofs [kp0, pair, nat2_len, asgTs, asgT]
  | 1 =>
    rw [show fits 1 b ps = (ps.length % 2 == 1) from rfl, ← b_odd]
    have hm := mod_nat ps.length
    generalize ((ps.length % 2 : Nat) : Int) = x at *
    simp -implicitDefEqProofs [kp1, odd, nat2_len, hm, asgTs, asgT]
  | kd + 2 =>
    obtain ⟨a, z, h1, h2, h3, h4, h5⟩ := asc_ends ha hne
    have e : fits (kd + 2) b ps = decide ((z : Int) - (a : Int) + 1 ≤ (b : Int)) := by
      show decide (ps.getD (ps.length - 1) 0 - ps.getD 0 0 < b) = _
      rw [h3, h4]
      by_cases c : z - a < b
      · rw [decide_eq_true c, decide_eq_true (by omega)]
      · rw [decide_eq_false c, decide_eq_false (by omega)]
    obtain ⟨k1, k2⟩ := kp2 kd b
    rw [e]
    generalize kindP (kd + 2) b = K at *
    simp -implicitDefEqProofs [k1, k2, burst, h1, h2, asgTs, asgT]
theorem c_fits (k kd b : Nat) (ps : List Nat) (ha : asc ps = true) (hne : ps ≠ []) : callF prog G (k + 1) 27 [.imm (.tup (nat2 ps)), .imm (kindP kd b)] = some (.imm (.bl (fits kd b ps)), [.imm (.tup (nat2 ps)), .imm (kindP kd b)]) := by
  refine wp_is (call_wp (fn := f__law_fits) rfl rfl ?_)
  simp only [f__law_fits, b__law_fits]
  match kd with
  | 0 =>
    have h := b_two ps.length
    rw [show fits 0 b ps = (ps.length == 2) from rfl, ← h]
    simp -implicitDefEqProofs [kp0, pair, nat2_len, asgTs, asgT]
  | 1 =>
    rw [show fits 1 b ps = (ps.length % 2 == 1) from rfl, ← b_odd]
    have hm := mod_nat ps.length
    generalize ((ps.length % 2 : Nat) : Int) = x at *
    simp -implicitDefEqProofs [kp1, odd, nat2_len, hm, asgTs, asgT]
  | kd + 2 =>
    obtain ⟨a, z, h1, h2, h3, h4, h5⟩ := asc_ends ha hne
    have e : fits (kd + 2) b ps = decide ((z : Int) - (a : Int) < (b : Int)) := by
      show decide (ps.getD (ps.length - 1) 0 - ps.getD 0 0 < b) = _
      rw [h3, h4]
      by_cases c : z - a < b
      · rw [decide_eq_true c, decide_eq_true (by omega)]
      · rw [decide_eq_false c, decide_eq_false (by omega)]
    obtain ⟨k1, k2⟩ := kp2 kd b
    rw [e]
    generalize kindP (kd + 2) b = K at *
    simp -implicitDefEqProofs [k1, k2, burst, h1, h2, asgTs, asgT]
theorem nat2_any (ps : List Nat) (k : Nat) : ((nat2 ps).any fun z => peq z (.int (k : Int))) = ps.contains k := by
  unfold nat2
  induction ps with
  | nil => rfl
  | cons p ps ih =>
    rw [List.map_cons, List.any_cons, ih, eqv_int, List.contains_cons]
    congr 1
    by_cases h : p = k
    · subst h; simp
    · rw [decide_eq_false (by omega), beq_eq_false_iff_ne.mpr (fun e => h e.symm)]
theorem so_inN (ps : List Nat) (k : Nat) : opSem .isin [.imm (.int (k : Int)), .imm (.tup (nat2 ps))] = some (.imm (.bl (ps.contains k))) := by
  have h : opIn (.imm (.int (k : Int))) (.imm (.tup (nat2 ps))) = some (ps.contains k) := by
    show (if min (depths (nat2 ps)) (depth (.int (k : Int))) ≤ 50 then some ((nat2 ps).any fun z => peq z (.int (k : Int))) else none) = _
    rw [nat2_any, if_pos (by simp [depth])]
  show (opIn _ _).bind ib = _
  rw [h] <;> rfl
theorem c_row (k n : Nat) (ps : List Nat) (hn : n ≤ 1000) : callF prog G (k + 1) 24 [.imm (.tup (nat2 ps)), .imm (.int n)] = some (.imm (.tup (bits (rowOf ps n))), [.imm (.tup (nat2 ps)), .imm (.int n)]) := by
  refine wp_is (call_wp (fn := f__law_row) rfl rfl ?_)
  simp only [f__law_row, b__law_row]
  simp -implicitDefEqProofs [it_rng1 (show n ≤ 1000000 by omega)]
  refine wp_comp (fun i acc e => acc = bits (rowOf ps i) ∧ i ≤ n ∧ e = [some (.imm (.tup (nat2 ps))), some (.imm (.int n)), none]) ⟨rfl, Nat.zero_le _, rfl⟩ (fun i p acc e hp hi => ?_) (fun acc e hi => ?_)
  · obtain ⟨rfl, hil, rfl⟩ := hi
    obtain ⟨hib, rfl⟩ := rng_get hp
    have hlen : (bits (rowOf ps i)).length < line := lt_lineN (by rw [bits_len]; simp [rowOf]; omega)
    have hin := so_inN ps i
    have hr : rowOf ps (i + 1) = rowOf ps i ++ [ps.contains i] := by
      unfold rowOf
      rw [List.range_succ, List.map_append] <;> rfl
    have hib : P.int (bI (ps.contains i)) = bP (ps.contains i) := rfl
    rw [hr, bits_app]
    generalize bits (rowOf ps i) = acc at *
    generalize ps.contains i = c at *
    simp -implicitDefEqProofs [stepCc, hin, hlen, hib]
    exact ⟨rfl, by omega⟩
  · obtain ⟨rfl, hil, rfl⟩ := hi
    rw [List.length_map, List.length_range]
    have h1 : opSem .tuple [.lst (bits (rowOf ps n))] = some (.imm (.tup (bits (rowOf ps n)))) := so_tupL (le_lineN (by rw [bits_len]; simp [rowOf]; omega))
    simp -implicitDefEqProofs [h1, asgTs, asgT]
/-! ### all subsets -/
def tps (l : List (List Nat)) : List P := l.map fun ps => P.tup (nat2 ps)
theorem tps_app (a b : List (List Nat)) : tps (a ++ b) = tps a ++ tps b := List.map_append ..
theorem tps_len (a : List (List Nat)) : (tps a).length = a.length := List.length_map ..
theorem tps_get {l : List (List Nat)} {i : Nat} {p : P} (h : (tps l)[i]? = some p) : ∃ ps, l[i]? = some ps ∧ p = .tup (nat2 ps) := by
  unfold tps at h
  rw [List.getElem?_map] at h
  cases q : l[i]? with
  | none => rw [q] at h; cases h
  | some ps => rw [q] at h; cases h; exact ⟨ps, rfl, rfl⟩
theorem lay_small : ∀ n, n < 10 → ∀ s, s < 10 → (lay n s).length ≤ 126 := by decide +kernel
theorem ext_len {n : Nat} {ps : List Nat} : (ext n ps).length = n - nxt ps := by simp [ext]
theorem sub_pre (n m i : Nat) (h : i ≤ m) : (subs n i).length ≤ (subs n m).length := by
  unfold subs
  obtain ⟨l, hl⟩ := range_pre h
  rw [hl, List.flatMap_append, List.length_append]
  omega
theorem subs_small : ∀ n, n < 10 → ∀ s, s < 10 → (subs n s).length ≤ 600 := by decide +kernel
theorem c_subsets (k n most : Nat) (hn : n ≤ 9) (hm : most ≤ 9) : callF prog G (k + 1) 25 [.imm (.int n), .imm (.int most)] = some (.lst (tps (subs n most)), [.imm (.int n), .imm (.int most)]) := by
  refine wp_is (call_wp (fn := f__law_subsets) rfl rfl ?_)
  simp only [f__law_subsets, b__law_subsets]
  have h0 : (0 : Nat) ≤ line := le_lineN (by omega)
  have h1 : (1 : Nat) ≤ line := le_lineN (by omega)
  refine wp_seq (fun q => q = (.nx, [some (.imm (.int n)), some (.imm (.int most)), none, some (.lst (tps (subs n 0))), some (.lst (tps (lay n 0))), none, none, none])) (fun R hR => ?_) fun q hq => ?_
  · simp -implicitDefEqProofs [h0, h1]
    exact hR _ rfl
  subst hq
  refine wp_seq (fun q => ∃ x2 x4 x6, q = (.nx, [some (.imm (.int n)), some (.imm (.int most)), x2, some (.lst (tps (subs n most))), x4, none, x6, none])) (fun R hR => ?_) fun q hq => ?_
  · simp -implicitDefEqProofs [it_rng1 (show most ≤ 1000000 by omega)]
    refine wp_for (fun s e => ∃ x2 x6, s ≤ most ∧ e = [some (.imm (.int n)), some (.imm (.int most)), x2, some (.lst (tps (subs n s))), some (.lst (tps (lay n s))), none, x6, none]) ⟨none, none, Nat.zero_le _, rfl⟩ (fun s p e hp hi => ?_) (fun e hi => ?_)
    · obtain ⟨x2, x6, hsm, rfl⟩ := hi
      obtain ⟨hlt, rfl⟩ := rng_get hp
      have hL := lay_small n (by omega) s (by omega)
      have hL1 := lay_small n (by omega) (s + 1) (by omega)
      have hS := subs_small n (by omega) s (by omega)
      have hF : tps (subs n (s + 1)) = tps (subs n s) ++ tps (lay n (s + 1)) := by
        rw [← tps_app]
        congr 1
        unfold subs
        rw [List.range_succ, List.flatMap_append]
        simp
      have hlay : lay n (s + 1) = (lay n s).flatMap (ext n) := rfl
      have hel : ∀ ps ∈ lay n s, ps.length ≤ 10 := fun ps h => by
        have := (mem_lay.mp h).1
        omega
      have hnx : ∀ ps ∈ lay n s, nxt ps ≤ n := fun ps h => by
        obtain ⟨_, _, h3⟩ := mem_lay.mp h
        unfold nxt
        split
        · rename_i p hp
          have := h3 p (List.mem_of_getLast? hp)
          omega
        · omega
      simp -implicitDefEqProofs only [stepFf, sx_bp1, Option.bind_some, List.set_cons_succ, List.set_cons_zero]
      refine wp_seq (fun q => q = (.nx, [some (.imm (.int n)), some (.imm (.int most)), some (.imm (.int s)), some (.lst (tps (subs n s))), some (.lst (tps (lay n s))), some (.lst (tps [])), x6, none])) (fun R' hR' => ?_) fun q hq => ?_
      · simp -implicitDefEqProofs [h0]
        exact hR' _ rfl
      subst hq
      generalize hLs : lay n s = Ls at *
      refine wp_seq (fun q => ∃ x6, q = (.nx, [some (.imm (.int n)), some (.imm (.int most)), some (.imm (.int s)), some (.lst (tps (subs n s))), some (.lst (tps Ls)), some (.lst (tps (Ls.flatMap (ext n)))), x6, none])) (fun R' hR' => ?_) fun q hq => ?_
      · simp -implicitDefEqProofs
        refine wp_for (fun j e => ∃ x6, e = [some (.imm (.int n)), some (.imm (.int most)), some (.imm (.int s)), some (.lst (tps (subs n s))), some (.lst (tps Ls)), some (.lst (tps ((Ls.take j).flatMap (ext n)))), x6, none]) ⟨x6, rfl⟩ (fun j p e hp hi => ?_) (fun e hi => ?_)
        · obtain ⟨x6, rfl⟩ := hi
          obtain ⟨ps, hps, rfl⟩ := tps_get hp
          have hmem : ps ∈ Ls := List.mem_of_getElem? hps
          have htk : (Ls.take (j + 1)).flatMap (ext n) = (Ls.take j).flatMap (ext n) ++ ext n ps := by
            rw [List.take_add_one, hps, List.flatMap_append]
            simp
          have hpre : (Ls.take j).flatMap (ext n) ++ ext n ps ++ (Ls.drop (j + 1)).flatMap (ext n) = Ls.flatMap (ext n) := by
            rw [← htk, ← List.flatMap_append, List.take_append_drop]
          have hlen : ((Ls.take j).flatMap (ext n)).length + (ext n ps).length ≤ 126 := by
            have := congrArg List.length hpre
            rw [List.length_append, List.length_append] at this
            rw [hlay] at hL1
            omega
          rw [htk, tps_app]
          have hpn := hnx ps hmem
          have hpl := hel ps hmem
          have hadd : opSem .add [.lst (tps ((Ls.take j).flatMap (ext n))), .lst (tps (ext n ps))] = some (.lst (tps ((Ls.take j).flatMap (ext n)) ++ tps (ext n ps))) := so_addl (le_lineN (by rw [tps_len, tps_len]; omega))
          generalize tps ((Ls.take j).flatMap (ext n)) = A at *
          -- the begin of the range
          have hlo : ∃ lo : Nat, lo = nxt ps ∧ wp (evo (callF prog G k) G (.ife (.nm 6) (.op .add [(.op .idx [(.nm 6), (.op .neg [(.cst (.int 1))])]), (.cst (.int 1))]) (.cst (.int 0))) [some (.imm (.int n)), some (.imm (.int most)), some (.imm (.int s)), some (.lst (tps (subs n s))), some (.lst (tps Ls)), some (.lst A), some (.imm (.tup (nat2 ps))), none]) fun r => r = (.tmp (.imm (.int (lo : Nat))), [some (.imm (.int n)), some (.imm (.int most)), some (.imm (.int s)), some (.lst (tps (subs n s))), some (.lst (tps Ls)), some (.lst A), some (.imm (.tup (nat2 ps))), none]) := by
            refine ⟨nxt ps, rfl, ?_⟩
            by_cases he : ps = []
            · subst he
              simp -implicitDefEqProofs [nat2, nxt]
            · obtain ⟨l, e1, e2⟩ := last_nat2 he
              have hb : (nat2 ps).isEmpty = false := by unfold nat2; cases ps <;> first | exact absurd rfl he | rfl
              rw [e2]
              simp -implicitDefEqProofs [e1, hb]
          obtain ⟨lo, hlo, hw⟩ := hlo
          have hife := wp_is hw
          clear hw
          have hit := it_rng2 (i := (lo : Int)) (j := (n : Int)) (by omega)
          rw [show ((n : Int) - (lo : Int)).toNat = n - lo by omega] at hit
          generalize hI : E.ife (.nm 6) (.op .add [(.op .idx [(.nm 6), (.op .neg [(.cst (.int 1))])]), (.cst (.int 1))]) (.cst (.int 0)) = I at *
          simp -implicitDefEqProofs [stepFf, hife, hit]
          refine wp_comp (fun i acc e => acc = tps ((List.range' lo i).map fun k => ps ++ [k]) ∧ i ≤ n - lo ∧ e = [some (.imm (.int n)), some (.imm (.int most)), some (.imm (.int s)), some (.lst (tps (subs n s))), some (.lst (tps Ls)), some (.lst A), some (.imm (.tup (nat2 ps))), none]) ⟨rfl, Nat.zero_le _, rfl⟩ (fun i p acc e hp hi => ?_) (fun acc e hi => ?_)
          · obtain ⟨rfl, hil, rfl⟩ := hi
            have hlt : i < n - lo := by
              have := (List.getElem?_eq_some_iff.mp hp).1
              simpa using this
            obtain rfl : p = .int ((lo : Int) + (i : Int)) := by
              rw [List.getElem?_map, List.getElem?_range hlt] at hp
              exact (Option.some.inj hp).symm
            obtain ⟨q, hq⟩ : ∃ q : Nat, q = lo + i := ⟨_, rfl⟩
            have hqi : (lo : Int) + (i : Int) = (q : Int) := by omega
            rw [hqi]
            have hal : (tps ((List.range' lo i).map fun k => ps ++ [k])).length < line := lt_lineN (by rw [tps_len]; simp; omega)
            have hadd2 : opSem .add [.imm (.tup (nat2 ps)), .imm (.tup [.int (q : Int)])] = some (.imm (.tup (nat2 (ps ++ [q])))) := by
              rw [so_addt (le_lineN (by rw [nat2_len]; simp; omega)), nat2_snoc]
            have hr : tps ((List.range' lo (i + 1)).map fun k => ps ++ [k]) = tps ((List.range' lo i).map fun k => ps ++ [k]) ++ [.tup (nat2 (ps ++ [q]))] := by
              rw [List.range'_concat, List.map_append, tps_app, hq]
              simp [tps]
            rw [hr]
            generalize tps ((List.range' lo i).map fun k => ps ++ [k]) = acc at *
            simp -implicitDefEqProofs [stepCc, hadd2, hal, h1]
            omega
          · obtain ⟨rfl, hil, rfl⟩ := hi
            rw [List.length_map, List.length_range]
            have hee : (List.range' lo (n - lo)).map (fun k => ps ++ [k]) = ext n ps := by rw [hlo]; rfl
            rw [hee]
            generalize tps (ext n ps) = B at *
            simp -implicitDefEqProofs [hadd]
        · obtain ⟨x6, rfl⟩ := hi
          rw [tps_len, List.take_length]
          exact hR' _ ⟨x6, rfl⟩
      obtain ⟨x6, rfl⟩ := hq
      rw [hF, ← hlay]
      have hadd3 : opSem .add [.lst (tps (subs n s)), .lst (tps (lay n (s + 1)))] = some (.lst (tps (subs n s) ++ tps (lay n (s + 1)))) := so_addl (le_lineN (by rw [tps_len, tps_len]; omega))
      generalize lay n (s + 1) = L2 at *
      simp -implicitDefEqProofs [hadd3]
      omega
    · obtain ⟨x2, x6, hsm, rfl⟩ := hi
      rw [List.length_map, List.length_range]
      exact hR _ ⟨_, _, _, rfl⟩
  obtain ⟨x2, x4, x6, rfl⟩ := hq
  simp -implicitDefEqProofs [asgTs, asgT]
end Sw.k43
namespace Sw.k43
theorem truth_bits (v : List Bool) : (bits v).all fitP = true ∧ (bits v).any truthP = v.any id := by
  unfold bits
  refine ⟨?_, ?_⟩
  · rw [List.all_map, List.all_eq_true]; intro x _; rfl
  · rw [List.any_map]
    congr 1
    funext b
    cases b <;> rfl
theorem so_anyB (v : List Bool) : opSem .any [.imm (.tup (bits v))] = some (.imm (.bl (v.any id))) := by
  obtain ⟨h1, h2⟩ := truth_bits v
  simp only [opSem, opAny, seqOf, Option.bind_some, h1, h2, if_true]
  rfl
def most (kd n : Nat) : Nat := if kd = 0 then 2 else n
def missedOf (d : List Bool) (n kd b : Nat) : List (List Nat) := (subs n (most kd n)).filter fun ps => fits kd b ps && (xs (tabOf d n) ps == 0)
theorem filter_take_succ {α : Type} (f : α → Bool) {S : List α} {i : Nat} {x : α} (h : S[i]? = some x) : (S.take (i + 1)).filter f = (S.take i).filter f ++ (if f x then [x] else []) := by
  rw [List.take_add_one, h, List.filter_append]
  have : (some x).toList.filter f = if f x then [x] else [] := by
    show [x].filter f = _
    cases hf : f x <;> simp [hf]
  rw [this]
theorem c_missed (k : Nat) (d : List Bool) (r n kd b : Nat) (hd : d.length = r + 1) (h0 : 0 < r) (hr : r ≤ 400) (hn2 : 2 ≤ n) (hn : n ≤ 9) :
    callF prog G (k + 2) 26 [.imm (.tup (bits d)), .imm (.int n), .imm (kindP kd b)] = some (.lst (tps (missedOf d n kd b)), [.imm (.tup (bits d)), .imm (.int n), .imm (kindP kd b)]) := by
  refine wp_is (call_wp (fn := f__law_missed) rfl rfl ?_)
  simp only [f__law_missed, b__law_missed]
  have h0' : (0 : Nat) ≤ line := le_lineN (by omega)
  have hmost : most kd n ≤ 9 := by unfold most; split <;> omega
  have hife : evo (callF prog G (k + 1)) G (.ife (.op .eq [(.op .idx [(.nm 2), (.cst (.int 0))]), (.cst (.str [112, 97, 105, 114]))]) (.cst (.int 2)) (.nm 1)) [some (.imm (.tup (bits d))), some (.imm (.int n)), some (.imm (kindP kd b)), some (.lst (tps [])), none] = some (.tmp (.imm (.int (most kd n : Nat))), [some (.imm (.tup (bits d))), some (.imm (.int n)), some (.imm (kindP kd b)), some (.lst (tps [])), none]) := by
    match kd with
    | 0 => simp -implicitDefEqProofs [kp0, pair, most]
    | 1 => simp -implicitDefEqProofs [kp1, odd, most]
    | kd + 2 => simp -implicitDefEqProofs [(kp2 kd b).1, burst, most]
  refine wp_seq (fun q => q = (.nx, [some (.imm (.tup (bits d))), some (.imm (.int n)), some (.imm (kindP kd b)), some (.lst (tps [])), none])) (fun R hR => ?_) fun q hq => ?_
  · simp -implicitDefEqProofs [h0']
    exact hR _ rfl
  subst hq
  have hsm := subs_small n (by omega) (most kd n) (by omega)
  have e25 : callF prog G (k + 1) 25 [.imm (.int n), .imm (.int (most kd n : Nat))] = some (.lst (tps (subs n (most kd n))), [.imm (.int n), .imm (.int (most kd n : Nat))]) := c_subsets k n (most kd n) hn hmost
  have hmem : ∀ ps ∈ subs n (most kd n), ps ≠ [] ∧ asc ps = true ∧ ∀ p ∈ ps, p < n := fun ps h => by
    obtain ⟨a, _, c, e⟩ := mem_subs.mp h
    exact ⟨a, c, e⟩
  have hmo : missedOf d n kd b = (subs n (most kd n)).filter fun ps => fits kd b ps && (xs (tabOf d n) ps == 0) := rfl
  rw [hmo]
  generalize subs n (most kd n) = S at *
  generalize most kd n = mo at *
  refine wp_seq (fun q => ∃ x4, q = (.nx, [some (.imm (.tup (bits d))), some (.imm (.int n)), some (.imm (kindP kd b)), some (.lst (tps (S.filter fun ps => fits kd b ps && (xs (tabOf d n) ps == 0)))), x4])) (fun R hR => ?_) fun q hq => ?_
  · generalize E.ife (.op .eq [(.op .idx [(.nm 2), (.cst (.int 0))]), (.cst (.str [112, 97, 105, 114]))]) (.cst (.int 2)) (.nm 1) = I at *
    simp -implicitDefEqProofs [hife, e25]
    refine wp_for (fun i e => ∃ x4, e = [some (.imm (.tup (bits d))), some (.imm (.int n)), some (.imm (kindP kd b)), some (.lst (tps ((S.take i).filter fun ps => fits kd b ps && (xs (tabOf d n) ps == 0)))), x4]) ⟨none, rfl⟩ (fun i p e hp hi => ?_) (fun e hi => ?_)
    · obtain ⟨x4, rfl⟩ := hi
      obtain ⟨ps, hps, rfl⟩ := tps_get hp
      obtain ⟨m1, m2, m3⟩ := hmem ps (List.mem_of_getElem? hps)
      have e27 : callF prog G (k + 1) 27 [.imm (.tup (nat2 ps)), .imm (kindP kd b)] = some (.imm (.bl (fits kd b ps)), [.imm (.tup (nat2 ps)), .imm (kindP kd b)]) := c_fits k kd b ps m2 m1
      have e24 : callF prog G (k + 1) 24 [.imm (.tup (nat2 ps)), .imm (.int n)] = some (.imm (.tup (bits (rowOf ps n))), [.imm (.tup (nat2 ps)), .imm (.int n)]) := c_row k n ps (by omega)
      have e23 : callF prog G (k + 1) 23 [.imm (.tup (bits d)), .imm (.tup (bits (rowOf ps n)))] = some (.imm (.tup (bits (res d r (rowOf ps n)))), [.imm (.tup (bits d)), .imm (.tup (bits (rowOf ps n)))]) := c_lrest k d (rowOf ps n) r hd h0 (by omega) (by simp [rowOf]; omega)
      have hany := so_anyB (res d r (rowOf ps n))
      have hx : (!(res d r (rowOf ps n)).any id) = (xs (tabOf d n) ps == 0) := by rw [any_num, num_row hd h0 (asc_nodup ps m2) m3]
      have htk := filter_take_succ (fun ps => fits kd b ps && (xs (tabOf d n) ps == 0)) hps
      have hlen : (tps ((S.take i).filter fun ps => fits kd b ps && (xs (tabOf d n) ps == 0))).length < line := lt_lineN (by
        rw [tps_len]
        have h1 := List.length_filter_le (fun ps => fits kd b ps && (xs (tabOf d n) ps == 0)) (S.take i)
        rw [List.length_take] at h1
        omega)
      rw [htk, ← hx, tps_app]
      generalize tps ((S.take i).filter fun ps => fits kd b ps && (xs (tabOf d n) ps == 0)) = A at *
      generalize bits (res d r (rowOf ps n)) = W at *
      generalize (res d r (rowOf ps n)).any id = an at *
      generalize bits (rowOf ps n) = W2 at *
      generalize hf : fits kd b ps = f at *
      generalize kindP kd b = K at *
      cases f <;> cases an <;> simp -implicitDefEqProofs [stepFf, e27, e24, e23, hany, mu_app hlen, tps]
    · obtain ⟨x4, rfl⟩ := hi
      rw [tps_len, List.take_length]
      exact hR _ ⟨_, rfl⟩
  obtain ⟨x4, rfl⟩ := hq
  simp -implicitDefEqProofs [asgTs, asgT]
/-! ### papers judged -/
def misOne (M : List (List Nat)) : P → Bool
  | .tup ps => ps.all isI && M.any fun m => decide (nat2 m = ps)
  | _ => false
def misOk (M : List (List Nat)) : List P → Bool
  | [y] => misOne M y
  | _ => false
theorem hTt (l : List P) : isTy (.tup l) .tuple = true := rfl
theorem hTs (l : List Nat) : isTy (.str l) .str = true := rfl
def papOk (M : List (List Nat)) (z : List Nat) (rest : List P) : Bool := if z = caught then rest.isEmpty && M.isEmpty else if z = missedS then misOk M rest else false
def isPap (M : List (List Nat)) : P → Bool
  | .tup (.str z :: rest) => papOk M z rest
  | _ => false
theorem peqs_nat2 : ∀ (m : List Nat) (ns : List Int), peqs (nat2 m) (ns.map P.int) = decide (nat2 m = ns.map P.int)
  | [], [] => rfl
  | [], _ :: _ => rfl
  | _ :: _, [] => rfl
  | a :: m, n :: ns => by
    show (peq (.int (a : Int)) (.int n) && peqs (nat2 m) (ns.map P.int)) = decide (P.int (a : Int) :: nat2 m = P.int n :: ns.map P.int)
    rw [peqs_nat2 m ns, eqv_int]
    simp
theorem depths_nat2 : ∀ m : List Nat, depths (nat2 m) = 0
  | [] => rfl
  | a :: m => by
    show max (depth (.int (a : Int))) (depths (nat2 m)) = 0
    rw [depths_nat2 m] <;> rfl
theorem depths_tps : ∀ M : List (List Nat), depths (tps M) ≤ 1
  | [] => Nat.zero_le _
  | m :: M => by
    show max (depth (.tup (nat2 m))) (depths (tps M)) ≤ 1
    have h1 := depths_tps M
    have h2 : depth (.tup (nat2 m)) = depths (nat2 m) + 1 := by simp only [depth]
    rw [depths_nat2] at h2
    omega
theorem so_inM (M : List (List Nat)) {ps : List P} (h : ps.all isI = true) : opSem .isin [.imm (.tup ps), .lst (tps M)] = some (.imm (.bl (M.any fun m => decide (nat2 m = ps)))) := by
  obtain ⟨ns, rfl⟩ := all_isI h
  have hi : opIn (.imm (.tup (ns.map P.int))) (.lst (tps M)) = some (M.any fun m => decide (nat2 m = ns.map P.int)) := by
    show (if min (depths (tps M)) (depth (.tup (ns.map P.int))) ≤ 50 then some ((tps M).any fun z => peq z (.tup (ns.map P.int))) else none) = _
    have := depths_tps M
    rw [if_pos (by omega)]
    congr 1
    unfold tps
    rw [List.any_map]
    congr 1
    funext m
    show peq (.tup (nat2 m)) (.tup (ns.map P.int)) = _
    rw [← peqs_nat2]
    simp only [peq]
  show (opIn _ _).bind ib = _
  rw [hi] <;> rfl
theorem c_is_paper (k : Nat) (K : P) (dP : P) (n : Int) (M : List (List Nat)) (v : P) (hv : ∀ s ps, v = .tup [s, .tup ps] → ps.length ≤ 1000) :
    callF prog G (k + 2) 28 [.imm dP, .imm (.int n), .imm K, .lst (tps M), .imm v] = some (.imm (.bl (isPap M v)), [.imm dP, .imm (.int n), .imm K, .lst (tps M), .imm v]) := by
  refine wp_is (call_wp (fn := f__law_is_paper) rfl rfl ?_)
  simp only [f__law_is_paper, b__law_is_paper]
  by_cases ht : ∃ l, v = .tup l
  · obtain ⟨l, rfl⟩ := ht
    match l, hv with
    | [], hv => simp -implicitDefEqProofs [hTt, hTs, isPap, asgTs, asgT]
    | s :: rest, hv =>
      have a0 : atP (s :: rest) 0 = some s := at_nat (i := 0) (by simp)
      by_cases hs : ∃ z, s = .str z
      · obtain ⟨z, rfl⟩ := hs
        by_cases hz : z = caught
        · subst hz
          have hcc : (caught = [99, 97, 117, 103, 104, 116]) = True := eq_true rfl
          have e0 : isPap M (.tup (.str caught :: rest)) = (rest.isEmpty && M.isEmpty) := rfl
          rw [e0]
          have hM : (tps M).isEmpty = M.isEmpty := by cases M <;> rfl
          cases rest with
          | nil =>
            simp -implicitDefEqProofs [hTt, hTs, a0, hcc, hM, asgTs, asgT]
          | cons y r =>
            have h3 : ¬ ((r.length : Int) + 1 + 1 = 1) := by omega
            simp -implicitDefEqProofs [hTt, hTs, a0, hcc, h3, asgTs, asgT]
        · have hz' : ¬ (z = [99, 97, 117, 103, 104, 116]) := hz
          by_cases hm : z = missedS
          · subst hm
            have hmm : (missedS = [109, 105, 115, 115, 101, 100]) = True := eq_true rfl
            have hmn : ¬ ([109, 105, 115, 115, 101, 100] = [99, 97, 117, 103, 104, 116]) := by decide
            have e0 : isPap M (.tup (.str missedS :: rest)) = misOk M rest := by
              show papOk M missedS rest = _
              unfold papOk
              rw [if_neg hz, if_pos rfl]
            rw [e0]
            match rest, hv, a0 with
            | [], hv, a0 =>
              rw [show misOk M [] = false from rfl]
              simp -implicitDefEqProofs [hTt, hTs, a0, hz', hmm, asgTs, asgT]
            | _ :: _ :: r, hv, a0 =>
              have h3 : ¬ ((r.length : Int) + 1 + 1 + 1 = 2) := by omega
              rw [show ∀ x y : P, misOk M (x :: y :: r) = false from fun _ _ => rfl]
              simp -implicitDefEqProofs [hTt, hTs, a0, hz', hmm, h3, asgTs, asgT]
            | [y], hv, a0 =>
              have a1 : atP [P.str missedS, y] 1 = some y := at_nat (i := 1) (by simp)
              by_cases hy : ∃ ps, y = .tup ps
              · obtain ⟨ps, rfl⟩ := hy
                have hl := hv _ _ rfl
                rw [show misOk M [.tup ps] = (ps.all isI && M.any fun m => decide (nat2 m = ps)) from rfl]
                generalize hvv : P.tup [.str missedS, .tup ps] = vv at *
                have hT : isTy vv .tuple = true := by rw [← hvv]; rfl
                have hl3 : opSem .len [.imm vv] = some (.imm (.int 2)) := by rw [← hvv]; rfl
                have hi0 : opSem .idx [.imm vv, .imm (.int 0)] = some (.imm (.str missedS)) := by rw [← hvv, so_idxT, a0]; rfl
                have hi1 : opSem .idx [.imm vv, .imm (.int 1)] = some (.imm (.tup ps)) := by rw [← hvv, so_idxT, a1]; rfl
                have htr : truth (.imm vv) = some true := by rw [← hvv]; rfl
                have hin := fun h => so_inM M (ps := ps) h
                refine wp_seq (fun q => q = (.nx, [some (.imm dP), some (.imm (.int n)), some (.imm K), some (.lst (tps M)), some (.imm vv), none])) (fun R hR => ?_) fun q hq => ?_
                · simp -implicitDefEqProofs [hT, htr, hi0, hTt, hTs]
                  exact hR _ rfl
                subst hq
                refine wp_seq (fun q => q = (.nx, [some (.imm dP), some (.imm (.int n)), some (.imm K), some (.lst (tps M)), some (.imm vv), none])) (fun R hR => ?_) fun q hq => ?_
                · simp -implicitDefEqProofs [hi0, hz']
                  exact hR _ rfl
                subst hq
                refine wp_seq (fun q => q = (.nx, [some (.imm dP), some (.imm (.int n)), some (.imm K), some (.lst (tps M)), some (.imm vv), none])) (fun R hR => ?_) fun q hq => ?_
                · simp -implicitDefEqProofs [hi0, hi1, hl3, hmm, hTt, hTs]
                  exact hR _ rfl
                subst hq
                simp -implicitDefEqProofs [hi1]
                refine wp_comp (fun i acc e => acc = ((ps.take i).map isI).map P.bl ∧ e = [some (.imm dP), some (.imm (.int n)), some (.imm K), some (.lst (tps M)), some (.imm vv), none]) ⟨rfl, rfl⟩ (fun i p acc e hp hi => ?_) (fun acc e hi => ?_)
                · obtain ⟨rfl, rfl⟩ := hi
                  have htk : ps.take (i + 1) = ps.take i ++ [p] := by rw [List.take_add_one, hp] <;> rfl
                  have hlen : (((ps.take i).map isI).map P.bl).length < line := lt_lineN (by simp; omega)
                  have e16 := c_is_int k p
                  rw [htk, List.map_append, List.map_append]
                  generalize ((ps.take i).map isI).map P.bl = acc at *
                  simp -implicitDefEqProofs [stepCc, e16, hlen]
                · obtain ⟨rfl, rfl⟩ := hi
                  rw [List.take_length]
                  have ha := so_all (ps.map isI)
                  have hall : (ps.map isI).all id = ps.all isI := by rw [List.all_map] <;> rfl
                  rw [hall] at ha
                  generalize (ps.map isI).map P.bl = acc at *
                  cases hc : ps.all isI with
                  | false =>
                    rw [hc] at ha
                    simp -implicitDefEqProofs [ha, hc, asgTs, asgT]
                  | true =>
                    rw [hc] at ha
                    have hin := hin hc
                    simp -implicitDefEqProofs only [Bool.true_and]
                    generalize (M.any fun m => decide (nat2 m = ps)) = bb at *
                    simp -implicitDefEqProofs [ha, hi1, hin, asgTs, asgT]
              · have hyT : isTy y .tuple = false := by cases y <;> first | rfl | exact absurd ⟨_, rfl⟩ hy
                have hf : misOk M [y] = false := by
                  cases y <;> first | rfl | exact absurd ⟨_, rfl⟩ hy
                rw [hf]
                simp -implicitDefEqProofs [hTt, hTs, a0, a1, hz', hmm, hyT, asgTs, asgT]
          · have e0 : isPap M (.tup (.str z :: rest)) = false := by
              show papOk M z rest = _
              unfold papOk
              rw [if_neg hz, if_neg hm]
            have hm' : ¬ (z = [109, 105, 115, 115, 101, 100]) := hm
            rw [e0]
            simp -implicitDefEqProofs [hTt, hTs, a0, hz', hm', asgTs, asgT]
      · have hS : isTy s .str = false := by cases s <;> first | rfl | exact absurd ⟨_, rfl⟩ hs
        have e0 : isPap M (.tup (s :: rest)) = false := by cases s <;> first | rfl | exact absurd ⟨_, rfl⟩ hs
        rw [e0]
        simp -implicitDefEqProofs [hTt, hTs, a0, hS, asgTs, asgT]
  · have h1 : isTy v .tuple = false ∧ isPap M v = false := by
      cases v <;> first | exact ⟨rfl, rfl⟩ | exact absurd ⟨_, rfl⟩ ht
    rw [h1.2]
    simp -implicitDefEqProofs [h1.1, asgTs, asgT]
end Sw.k43
namespace Sw.k43
theorem c_is_integer (k : Nat) (v : P) : callF prog G (k + 1) 0 [.imm v] = some (.imm (.bl (isI v)), [.imm v]) := by
  refine wp_is (call_wp (fn := f_is_integer) rfl rfl ?_)
  cases v <;> simp -implicitDefEqProofs [f_is_integer, b_is_integer, asgTs, asgT, isTy, isI]
theorem incr_asc : ∀ l : List Nat, incr l = asc l
  | [] => rfl
  | [_] => rfl
  | a :: b :: r => by
    show (decide (a < b) && incr (b :: r)) = (decide (a < b) && asc (b :: r))
    rw [incr_asc (b :: r)]
def inR (n : Nat) : P → Bool
  | .int i => decide (0 ≤ i) && decide (i < n)
  | _ => false
theorem inR_of {n : Nat} : ∀ {ps : List P}, ps.all (inR n) = true → ∃ m : List Nat, ps = nat2 m ∧ ∀ x ∈ m, x < n
  | [], _ => ⟨[], rfl, fun x h => nomatch h⟩
  | p :: ps, h => by
    rw [List.all_cons, Bool.and_eq_true] at h
    obtain ⟨m, rfl, hm⟩ := inR_of h.2
    cases p <;> first | (cases h.1; done) | skip
    rename_i i
    have h1 : (decide (0 ≤ i) && decide (i < n)) = true := h.1
    simp only [Bool.and_eq_true, decide_eq_true_eq] at h1
    obtain ⟨a, rfl⟩ := Int.eq_ofNat_of_zero_le h1.1
    refine ⟨a :: m, rfl, fun x hx => ?_⟩
    rcases List.mem_cons.mp hx with rfl | hx
    · omega
    · exact hm x hx
theorem nat2_inj {a b : List Nat} (h : nat2 a = nat2 b) : a = b := by
  unfold nat2 at h
  induction a generalizing b with
  | nil => cases b <;> first | rfl | cases h
  | cons x a ih =>
    cases b with
    | nil => cases h
    | cons y b =>
      rw [List.map_cons, List.map_cons, List.cons.injEq, P.int.injEq] at h
      rw [ih h.2, show x = y by omega]
theorem asc_len : ∀ (n : Nat) (ps : List Nat), ps.length = n → asc ps = true → ps.length ≤ nxt ps
  | 0, ps, h, _ => by omega
  | n + 1, ps, h, ha => by
    rcases List.eq_nil_or_concat ps with rfl | ⟨qs, k, rfl⟩
    · simp at h
    · rw [List.concat_eq_append] at *
      rw [asc_app, Bool.and_eq_true, decide_eq_true_eq] at ha
      have ih := asc_len n qs (by simpa using h) ha.1
      have : nxt (qs ++ [k]) = k + 1 := by unfold nxt; rw [List.getLast?_concat]
      rw [this, List.length_append, List.length_singleton]
      omega
theorem asc_le {n : Nat} {ps : List Nat} (h : asc ps = true) (hn : ∀ p ∈ ps, p < n) : ps.length ≤ n := by
  have h1 := asc_len _ ps rfl h
  have h2 : nxt ps ≤ n := by
    unfold nxt
    split
    · rename_i p hp
      exact hn p (List.mem_of_getLast? hp)
    · omega
  omega
theorem mem_missed {d : List Bool} {n kd b : Nat} {m : List Nat} : m ∈ missedOf d n kd b ↔ m ≠ [] ∧ asc m = true ∧ (∀ p ∈ m, p < n) ∧ fits kd b m = true ∧ xs (tabOf d n) m = 0 := by
  unfold missedOf
  rw [List.mem_filter, mem_subs, Bool.and_eq_true, beq_iff_eq]
  constructor
  · rintro ⟨⟨a, _, c, e⟩, f, g⟩
    exact ⟨a, c, e, f, g⟩
  · rintro ⟨a, c, e, f, g⟩
    refine ⟨⟨a, ?_, c, e⟩, f, g⟩
    unfold most
    split
    · rename_i h0
      subst h0
      have : (m.length == 2) = true := f
      rw [beq_iff_eq] at this
      omega
    · exact asc_le c e
theorem xs_take {tab : List Nat} {m : List Nat} {i p : Nat} (h : m[i]? = some p) : xs tab (m.take (i + 1)) = xs tab (m.take i) ^^^ tab.getD p 0 := by
  rw [List.take_add_one, h, xs_app]
  show _ ^^^ (tab.getD p 0 ^^^ 0) = _
  rw [Nat.xor_zero]
theorem any_missed (M : List (List Nat)) (m : List Nat) : (M.any fun x => decide (nat2 x = nat2 m)) = decide (m ∈ M) := by
  rw [Bool.eq_iff_iff, List.any_eq_true, decide_eq_true_eq]
  constructor
  · rintro ⟨x, hx, e⟩
    rw [← nat2_inj (of_decide_eq_true e)]
    exact hx
  · intro h
    exact ⟨m, h, decide_eq_true rfl⟩
theorem so_notin12 (m : Nat) : opSem .notin [.imm (.int (m : Int)), .imm (.tup [.int 1, .int 2])] = some (.imm (.bl (!(m == 1 || m == 2)))) := by
  have h : opIn (.imm (.int (m : Int))) (.imm (.tup [.int 1, .int 2])) = some (m == 1 || m == 2) := by
    show (if min (depths [P.int 1, .int 2]) (depth (.int (m : Int))) ≤ 50 then some ([P.int 1, .int 2].any fun z => peq z (.int (m : Int))) else none) = _
    rw [if_pos (by simp [depth])]
    congr 1
    rw [List.any_cons, List.any_cons, List.any_nil, eqv_int, eqv_int, Bool.or_false]
    congr 1
    · by_cases e : m = 1
      · subst e; rfl
      · rw [decide_eq_false (by omega), beq_eq_false_iff_ne.mpr e]
    · by_cases e : m = 2
      · subst e; rfl
      · rw [decide_eq_false (by omega), beq_eq_false_iff_ne.mpr e]
  have e : opSem .notin [.imm (.int (m : Int)), .imm (.tup [.int 1, .int 2])] = (opIn (.imm (.int (m : Int))) (.imm (.tup [.int 1, .int 2]))).bind fun b => ib (!b) := rfl
  rw [e, h]
  rfl
/-- what the paper is -/
def Right (M : List (List Nat)) (pv : P) : Prop := (pv = caughtP ∧ M = []) ∨ ∃ ps, pv = missP ps ∧ ps ∈ M
theorem right_eq {M : List (List Nat)} {pv : P} (h : Right M pv) : opSem .eq [.imm pv, .imm (.tup [.str caught])] = some (.imm (.bl M.isEmpty)) := by
  rcases h with ⟨rfl, rfl⟩ | ⟨ps, rfl, hps⟩
  · decide +kernel
  · have hM : M.isEmpty = false := by
      cases M with
      | nil => cases hps
      | cons _ _ => rfl
    rw [hM]
    simp only [opSem, cmpEq, rd, missP, depth, depths, depths_nat2]
    rw [if_pos (by decide)]
    simp only [Option.bind_some, peq, peqs]
    rfl
theorem c_judge (k : Nat) (d : List Bool) (r n kd b o : Nat) (v : P) (hd : d.length = r + 1) (h0 : 0 < r) (hr : r ≤ 400) (hn2 : 2 ≤ n) (hn : n ≤ 9) (hb0 : 0 < b) (hb : b ≤ 100) (ho : ord d = some o)
    (hR : Right (missedOf d n kd b) (paper d n r kd b)) (hv : ∀ s ps, v = .tup [s, .tup ps] → ps.length ≤ 1000) :
    callF prog G (k + 120) 11 [.imm (.tup (bits d)), .imm (.int n), .imm (kindP kd b), .imm v] = some (.imm (.bl (isPap (missedOf d n kd b) v)), [.imm (.tup (bits d)), .imm (.int n), .imm (kindP kd b), .imm v]) := by
  refine wp_is (call_wp (k := k + 119) (fn := f_judge_divided) rfl rfl ?_)
  simp only [f_judge_divided, b_judge_divided]
  have e9 : callF prog G (k + 119) 9 [.imm (.tup (bits d)), .imm (.int n), .imm (kindP kd b)] = some (.imm (paper d n r kd b), [.imm (.tup (bits d)), .imm (.int n), .imm (kindP kd b)]) := c_paper (k + 9) d r n kd b o hd h0 hr (by omega) (by omega) hb0 hb ho
  have hpe := right_eq hR
  have hmemM := fun m => mem_missed (d := d) (n := n) (kd := kd) (b := b) (m := m)
  have e10 := fun m h1 h2 => c_kind (k + 118) kd b m h1 h2
  have e10 : ∀ m, asc m = true → m ≠ [] → callF prog G (k + 119) 10 [.imm (.tup (nat2 m)), .imm (kindP kd b)] = some (.imm (.bl (fits kd b m)), [.imm (.tup (nat2 m)), .imm (kindP kd b)]) := e10
  have e6 : callF prog G (k + 119) 6 [.imm (.tup (bits d)), .imm (.int n)] = some (.lst (nat2 (tabOf d n)), [.imm (.tup (bits d)), .imm (.int n)]) := c_powers (k + 117) d r n hd h0 hr (by omega)
  have htl := tab_len d n
  generalize missedOf d n kd b = M at *
  generalize paper d n r kd b = pv at *
  generalize kindP kd b = K at *
  generalize P.tup (bits d) = dP at *
  have h2l : (2 : Nat) ≤ line := le_lineN (by omega)
  by_cases ht : ∃ l, v = .tup l
  · obtain ⟨l, rfl⟩ := ht
    match l, hv with
    | [], hv =>
      have hni : opSem .notin [.imm (.int 0), .imm (.tup [.int 1, .int 2])] = some (.imm (.bl true)) := so_notin12 0
      simp -implicitDefEqProofs [hTt, hni, h2l, isPap, asgTs, asgT]
    | x :: y :: z :: r, hv =>
      have hni : opSem .notin [.imm (.int (((x :: y :: z :: r).length : Nat) : Int)), .imm (.tup [.int 1, .int 2])] = some (.imm (.bl true)) := by
        rw [so_notin12]
        simp
      have e0 : isPap M (.tup (x :: y :: z :: r)) = false := by
        cases x <;> first | rfl | skip
        show papOk M _ _ = false
        unfold papOk
        split
        · rfl
        · split <;> rfl
      rw [e0]
      have hl : opSem .len [.imm (.tup (x :: y :: z :: r))] = some (.imm (.int (((x :: y :: z :: r).length : Nat) : Int))) := so_lenT
      generalize (((x :: y :: z :: r).length : Nat) : Int) = L at *
      generalize hvv : P.tup (x :: y :: z :: r) = vv at *
      have hT : isTy vv .tuple = true := by rw [← hvv]; rfl
      simp -implicitDefEqProofs [hT, hl, hni, h2l, asgTs, asgT]
    | [s], hv =>
      have a0 : atP [s] 0 = some s := at1
      have hni : opSem .notin [.imm (.int 1), .imm (.tup [.int 1, .int 2])] = some (.imm (.bl false)) := so_notin12 1
      by_cases hs : ∃ z, s = .str z
      · obtain ⟨z, rfl⟩ := hs
        have e0 : isPap M (.tup [.str z]) = papOk M z [] := rfl
        rw [e0]
        unfold papOk
        by_cases hz : z = caught
        · subst hz
          rw [if_pos rfl]
          have hcc : (caught = [99, 97, 117, 103, 104, 116]) = True := eq_true rfl
          generalize hvv : P.tup [.str caught] = vv at *
          have hT : isTy vv .tuple = true := by rw [← hvv]; rfl
          have hl1 : opSem .len [.imm vv] = some (.imm (.int 1)) := by rw [← hvv]; rfl
          have hi0 : opSem .idx [.imm vv, .imm (.int 0)] = some (.imm (.str caught)) := by rw [← hvv, so_idxT, a0]; rfl
          simp -implicitDefEqProofs [hT, hl1, hi0, hni, h2l, hTs, hcc, e9, hpe, asgTs, asgT]
        · rw [if_neg hz]
          have hz' : ¬ (z = [99, 97, 117, 103, 104, 116]) := hz
          have : (if z = missedS then misOk M [] else false) = false := by split <;> rfl
          rw [this]
          by_cases hm : z = [109, 105, 115, 115, 101, 100]
          · subst hm
            simp -implicitDefEqProofs [hTt, a0, hni, h2l, hTs, asgTs, asgT]
          · simp -implicitDefEqProofs [hTt, a0, hni, h2l, hTs, hz', hm, asgTs, asgT]
      · have hS : isTy s .str = false := by cases s <;> first | rfl | exact absurd ⟨_, rfl⟩ hs
        have e0 : isPap M (.tup [s]) = false := by cases s <;> first | rfl | exact absurd ⟨_, rfl⟩ hs
        rw [e0]
        simp -implicitDefEqProofs [hTt, a0, hni, h2l, hS, asgTs, asgT]
    | [s, y], hv =>
      have a0 : atP [s, y] 0 = some s := at2.1
      have a1 : atP [s, y] 1 = some y := at2.2
      have hni : opSem .notin [.imm (.int 2), .imm (.tup [.int 1, .int 2])] = some (.imm (.bl false)) := so_notin12 2
      by_cases hs : ∃ z, s = .str z
      · obtain ⟨z, rfl⟩ := hs
        have e0 : isPap M (.tup [.str z, y]) = papOk M z [y] := rfl
        rw [e0]
        unfold papOk
        by_cases hz : z = caught
        · subst hz
          rw [if_pos rfl]
          have hcc : (caught = [99, 97, 117, 103, 104, 116]) = True := eq_true rfl
          simp -implicitDefEqProofs [hTt, hTs, a0, hni, h2l, hcc, asgTs, asgT]
        · rw [if_neg hz]
          have hz' : ¬ (z = [99, 97, 117, 103, 104, 116]) := hz
          by_cases hm : z = missedS
          · subst hm
            rw [if_pos rfl, show misOk M [y] = misOne M y from rfl]
            have hmm : (missedS = [109, 105, 115, 115, 101, 100]) = True := eq_true rfl
            by_cases hy : ∃ ps, y = .tup ps
            · obtain ⟨ps, rfl⟩ := hy
              have hl := hv _ _ rfl
              rw [show misOne M (.tup ps) = (ps.all isI && M.any fun m => decide (nat2 m = ps)) from rfl]
              generalize hvv : P.tup [.str missedS, .tup ps] = vv at *
              have hT : isTy vv .tuple = true := by rw [← hvv]; rfl
              have hl2 : opSem .len [.imm vv] = some (.imm (.int 2)) := by rw [← hvv]; rfl
              have hi0 : opSem .idx [.imm vv, .imm (.int 0)] = some (.imm (.str missedS)) := by rw [← hvv, so_idxT, a0]; rfl
              have hi1 : opSem .idx [.imm vv, .imm (.int 1)] = some (.imm (.tup ps)) := by rw [← hvv, so_idxT, a1]; rfl
              refine wp_seq (fun q => q = (.nx, [some (.imm dP), some (.imm (.int n)), some (.imm K), some (.imm vv), none, none, none, none, none, none])) (fun R hR => ?_) fun q hq => ?_
              · simp -implicitDefEqProofs [hT, hl2, hni, h2l, hi0, hTs]
                exact hR _ rfl
              subst hq
              refine wp_seq (fun q => q = (.nx, [some (.imm dP), some (.imm (.int n)), some (.imm K), some (.imm vv), none, none, none, none, none, none])) (fun R hR => ?_) fun q hq => ?_
              · simp -implicitDefEqProofs [hi0, hz']
                exact hR _ rfl
              subst hq
              by_cases hps : ps = []
              · subst hps
                have hMe : (M.any fun m => decide (nat2 m = [])) = false := by
                  rw [List.any_eq_false]
                  intro m hm
                  have hne := ((hmemM m).mp hm).1
                  cases m with
                  | nil => exact absurd rfl hne
                  | cons _ _ => simp [nat2]
                rw [hMe, Bool.and_false]
                simp -implicitDefEqProofs [hi0, hi1, hl2, hmm, hTt, asgTs, asgT]
              have hpl : ¬ ((ps.length : Int) = 0) := by
                have := List.length_pos_iff.mpr hps
                omega
              refine wp_seq (fun q => q = (.nx, [some (.imm dP), some (.imm (.int n)), some (.imm K), some (.imm vv), none, none, none, none, none, none])) (fun R hR => ?_) fun q hq => ?_
              · simp -implicitDefEqProofs [hi0, hi1, hl2, hmm, hTt, hps]
                exact hR _ rfl
              subst hq
              refine wp_seq (fun q => q = (.nx, [some (.imm dP), some (.imm (.int n)), some (.imm K), some (.imm vv), some (.imm (.tup ps)), none, none, none, none, none])) (fun R hR => ?_) fun q hq => ?_
              · simp -implicitDefEqProofs [hi1]
                exact hR _ rfl
              subst hq
              refine wp_seq (fun q => q = (if ps.all (inR n) then Fl.nx else Fl.rt (.imm (.bl false)), [some (.imm dP), some (.imm (.int n)), some (.imm K), some (.imm vv), some (.imm (.tup ps)), none, none, none, none, none])) (fun R hR => ?_) fun q hq => ?_
              · simp -implicitDefEqProofs
                refine wp_comp (fun i acc e => acc = ((ps.take i).map (inR n)).map P.bl ∧ e = [some (.imm dP), some (.imm (.int n)), some (.imm K), some (.imm vv), some (.imm (.tup ps)), none, none, none, none, none]) ⟨rfl, rfl⟩ (fun i p acc e hp hi => ?_) (fun acc e hi => ?_)
                · obtain ⟨rfl, rfl⟩ := hi
                  have htk : ps.take (i + 1) = ps.take i ++ [p] := by rw [List.take_add_one, hp] <;> rfl
                  have hlen : (((ps.take i).map (inR n)).map P.bl).length < line := lt_lineN (by simp; omega)
                  have e16 : callF prog G (k + 119) 0 [.imm p] = some (.imm (.bl (isI p)), [.imm p]) := c_is_integer (k + 118) p
                  rw [htk, List.map_append, List.map_append]
                  generalize ((ps.take i).map (inR n)).map P.bl = acc at *
                  by_cases hu : ∃ z, p = .int z
                  · obtain ⟨z, rfl⟩ := hu
                    have e16 : callF prog G (k + 119) 0 [.imm (.int z)] = some (.imm (.bl true), [.imm (.int z)]) := e16
                    by_cases hz0 : 0 ≤ z
                    · simp -implicitDefEqProofs [stepCc, e16, hlen, hz0, inR]
                    · simp -implicitDefEqProofs [stepCc, e16, hlen, hz0, inR]
                  · have hI : isI p = false := by cases p <;> first | rfl | exact absurd ⟨_, rfl⟩ hu
                    have hB : inR n p = false := by cases p <;> first | rfl | exact absurd ⟨_, rfl⟩ hu
                    rw [hI] at e16
                    simp -implicitDefEqProofs [stepCc, e16, hlen, hB]
                · obtain ⟨rfl, rfl⟩ := hi
                  rw [List.take_length]
                  have ha := so_all (ps.map (inR n))
                  have hall : (ps.map (inR n)).all id = ps.all (inR n) := by rw [List.all_map] <;> rfl
                  rw [hall] at ha
                  generalize (ps.map (inR n)).map P.bl = acc at *
                  generalize ps.all (inR n) = bb at *
                  cases bb <;> simp -implicitDefEqProofs [ha] <;> exact hR _ rfl
              subst hq
              cases hin : ps.all (inR n) with
              | false =>
                have e0 : (ps.all isI && M.any fun m => decide (nat2 m = ps)) = false := by
                  rw [Bool.and_eq_false_iff]
                  refine .inr ?_
                  rw [List.any_eq_false]
                  intro m hm e
                  have e := of_decide_eq_true e
                  have h3 := ((hmemM m).mp hm).2.2.1
                  rw [← e] at hin
                  have : (nat2 m).all (inR n) = true := by
                    unfold nat2
                    rw [List.all_map, List.all_eq_true]
                    intro x hx
                    show (decide (0 ≤ (x : Int)) && decide ((x : Int) < (n : Int))) = true
                    have := h3 x hx
                    rw [decide_eq_true (by omega), decide_eq_true (by omega)] <;> rfl
                  rw [this] at hin
                  cases hin
                rw [e0]
                simp -implicitDefEqProofs [asgTs, asgT]
              | true =>
                obtain ⟨m, rfl, hmn⟩ := inR_of hin
                have hI : (nat2 m).all isI = true := by
                  unfold nat2
                  rw [List.all_map, List.all_eq_true]
                  intro x _
                  rfl
                have hml : m.length ≤ 1000 := by rw [nat2_len] at hl; exact hl
                have hmne : m ≠ [] := fun e => hps (by rw [e]; rfl)
                rw [hI, Bool.true_and, any_missed]
                rw [if_pos rfl]
                have hasc : ∀ R : Fl × En → Prop, R (if asc m && fits kd b m then Fl.nx else Fl.rt (.imm (.bl false)), [some (.imm dP), some (.imm (.int n)), some (.imm K), some (.imm vv), some (.imm (.tup (nat2 m))), none, none, none, none, none]) → wp (ex (callF prog G (k + 119)) G (.ifs (.or [(.not (.op .all [(.cmp [8, 9] (.tp [(.nm 8), (.nm 9)]) .zip [(.nm 4), (.slc (.nm 4) (some (.cst (.int 1))) none)] [] (.op .lt [(.nm 8), (.nm 9)]))])), (.not (.call 10 [(.nm 4), (.nm 2)]))]) [.ret (.cst (.bl false))] []) [some (.imm dP), some (.imm (.int n)), some (.imm K), some (.imm vv), some (.imm (.tup (nat2 m))), none, none, none, none, none]) R := fun R hR => by
                  have hz : ((nat2 m).zip (nat2 m).tail).map (fun q => P.tup [q.1, q.2]) = (m.zip m.tail).map fun q => P.tup [.int q.1, .int q.2] := by
                    unfold nat2
                    rw [← List.map_tail, List.zip_map, List.map_map]
                    rfl
                  have h1 : cutP (nat2 m) (some 1) none = (nat2 m).tail := (cut_n0 (nat2 m) 1).trans List.drop_one
                  simp -implicitDefEqProofs [h1, it_zipT, hz]
                  refine wp_comp (fun i acc e => acc = ((((m.zip m.tail).take i).map fun q => decide (q.1 < q.2)).map P.bl) ∧ e = [some (.imm dP), some (.imm (.int n)), some (.imm K), some (.imm vv), some (.imm (.tup (nat2 m))), none, none, none, none, none]) ⟨rfl, rfl⟩ (fun i p acc e hp hi => ?_) (fun acc e hi => ?_)
                  · obtain ⟨rfl, rfl⟩ := hi
                    obtain ⟨q, hq, rfl⟩ : ∃ q, (m.zip m.tail)[i]? = some q ∧ p = .tup [.int q.1, .int q.2] := by
                      rw [List.getElem?_map] at hp
                      cases z : (m.zip m.tail)[i]? with
                      | none => rw [z] at hp; cases hp
                      | some q => rw [z] at hp; cases hp; exact ⟨q, rfl, rfl⟩
                    have hlen : (List.map P.bl (((m.zip m.tail).take i).map fun q => decide (q.1 < q.2))).length < line := lt_lineN (by simp; omega)
                    have htk : (m.zip m.tail).take (i + 1) = (m.zip m.tail).take i ++ [q] := by rw [List.take_add_one, hq] <;> rfl
                    rw [htk, List.map_append, List.map_append]
                    generalize List.map P.bl (((m.zip m.tail).take i).map fun q => decide (q.1 < q.2)) = acc at *
                    simp -implicitDefEqProofs [stepCc, hlen]
                  · obtain ⟨rfl, rfl⟩ := hi
                    rw [List.length_map, List.take_of_length_le (Nat.le_refl _)]
                    have ha := so_all ((m.zip m.tail).map fun q => decide (q.1 < q.2))
                    rw [zip_incr, incr_asc] at ha
                    generalize ((m.zip m.tail).map fun q => decide (q.1 < q.2)).map P.bl = acc at *
                    cases hA : asc m with
                    | false =>
                      rw [hA] at ha hR
                      simp -implicitDefEqProofs [ha]
                      exact hR
                    | true =>
                      rw [hA] at ha hR
                      have e10 := e10 m hA hmne
                      generalize fits kd b m = f at *
                      cases f <;> simp -implicitDefEqProofs [ha, e10] <;> exact hR
                refine wp_seq (fun q => q = (if asc m && fits kd b m then Fl.nx else Fl.rt (.imm (.bl false)), [some (.imm dP), some (.imm (.int n)), some (.imm K), some (.imm vv), some (.imm (.tup (nat2 m))), none, none, none, none, none])) (fun R hR => hasc R (hR _ rfl)) fun q hq => ?_
                subst hq
                cases hc : asc m && fits kd b m with
                | false =>
                  have e0 : decide (m ∈ M) = false := by
                    apply decide_eq_false
                    intro hm
                    obtain ⟨_, h2, _, h4, _⟩ := (hmemM m).mp hm
                    rw [h2, h4] at hc
                    cases hc
                  rw [e0]
                  simp -implicitDefEqProofs [asgTs, asgT]
                | true =>
                  rw [Bool.and_eq_true] at hc
                  have e0 : decide (m ∈ M) = decide (((xs (tabOf d n) m : Nat) : Int) = 0) := by
                    rw [decide_eq_decide, hmemM]
                    constructor
                    · rintro ⟨_, _, _, _, h⟩
                      rw [h] <;> rfl
                    · intro h
                      exact ⟨hmne, hc.1, hmn, hc.2, by omega⟩
                  rw [e0]
                  generalize tabOf d n = T at *
                  rw [if_pos rfl]
                  refine wp_seq (fun q => q = (.nx, [some (.imm dP), some (.imm (.int n)), some (.imm K), some (.imm vv), some (.imm (.tup (nat2 m))), some (.imm (.int ((xs T [] : Nat) : Int))), none, none, none, none])) (fun R hR => ?_) fun q hq => ?_
                  · simp -implicitDefEqProofs
                    exact hR _ rfl
                  subst hq
                  refine wp_seq (fun q => q = (.nx, [some (.imm dP), some (.imm (.int n)), some (.imm K), some (.imm vv), some (.imm (.tup (nat2 m))), some (.imm (.int ((xs T [] : Nat) : Int))), some (.lst (nat2 T)), none, none, none])) (fun R hR => ?_) fun q hq => ?_
                  · simp -implicitDefEqProofs [e6]
                    exact hR _ rfl
                  subst hq
                  refine wp_seq (fun q => ∃ x7, q = (.nx, [some (.imm dP), some (.imm (.int n)), some (.imm K), some (.imm vv), some (.imm (.tup (nat2 m))), some (.imm (.int ((xs T m : Nat) : Int))), some (.lst (nat2 T)), x7, none, none])) (fun R hR => ?_) fun q hq => ?_
                  · simp -implicitDefEqProofs
                    refine wp_for (fun i e => ∃ x7, e = [some (.imm dP), some (.imm (.int n)), some (.imm K), some (.imm vv), some (.imm (.tup (nat2 m))), some (.imm (.int ((xs T (m.take i) : Nat) : Int))), some (.lst (nat2 T)), x7, none, none]) ⟨none, rfl⟩ (fun i p e hp hi => ?_) (fun e hi => ?_)
                    · obtain ⟨x7, rfl⟩ := hi
                      obtain ⟨q, hq, rfl⟩ : ∃ q, m[i]? = some q ∧ p = .int (q : Nat) := by
                        unfold nat2 at hp
                        rw [List.getElem?_map] at hp
                        cases z : m[i]? with
                        | none => rw [z] at hp; cases hp
                        | some q => rw [z] at hp; cases hp; exact ⟨q, rfl, rfl⟩
                      have hqn : q < T.length := by rw [htl]; exact hmn q (List.mem_of_getElem? hq)
                      have hat : atP (nat2 T) (q : Int) = some (.int (T.getD q 0 : Nat)) := nat2_get (by rw [List.getD_eq_getElem?_getD, List.getElem?_eq_getElem hqn] <;> rfl)
                      have hx := so_xorN (xs T (m.take i)) (T.getD q 0)
                      rw [xs_take hq]
                      generalize xs T (m.take i) = a at *
                      generalize T.getD q 0 = c at *
                      generalize ((a ^^^ c : Nat) : Int) = ac at *
                      simp -implicitDefEqProofs [stepFf, hat, hx]
                    · obtain ⟨x7, rfl⟩ := hi
                      rw [nat2_len, List.take_length]
                      exact hR _ ⟨x7, rfl⟩
                  obtain ⟨x7, rfl⟩ := hq
                  generalize ((xs T m : Nat) : Int) = X at *
                  simp -implicitDefEqProofs [asgTs, asgT]
            · have hyT : isTy y .tuple = false := by cases y <;> first | rfl | exact absurd ⟨_, rfl⟩ hy
              have hf : misOne M y = false := by
                cases y <;> first | rfl | exact absurd ⟨_, rfl⟩ hy
              rw [hf]
              simp -implicitDefEqProofs [hTt, hTs, a0, a1, hni, h2l, hz', hmm, hyT, asgTs, asgT]
          · rw [if_neg hm]
            have hm' : ¬ (z = [109, 105, 115, 115, 101, 100]) := hm
            simp -implicitDefEqProofs [hTt, hTs, a0, hni, h2l, hz', hm', asgTs, asgT]
      · have hS : isTy s .str = false := by cases s <;> first | rfl | exact absurd ⟨_, rfl⟩ hs
        have e0 : isPap M (.tup [s, y]) = false := by cases s <;> first | rfl | exact absurd ⟨_, rfl⟩ hs
        rw [e0]
        simp -implicitDefEqProofs [hTt, a0, hni, h2l, hS, asgTs, asgT]
  · have h1 : isTy v .tuple = false ∧ isPap M v = false := by
      cases v <;> first | exact ⟨rfl, rfl⟩ | exact absurd ⟨_, rfl⟩ ht
    rw [h1.2]
    simp -implicitDefEqProofs [h1.1, asgTs, asgT]
end Sw.k43
namespace Sw.k43
theorem mem_bitsN : ∀ v : List Bool, v ∈ bitsN v.length
  | [] => by simp [bitsN]
  | b :: v => by
    show b :: v ∈ (bitsN v.length).flatMap fun v => [false :: v, true :: v]
    rw [List.mem_flatMap]
    exact ⟨v, mem_bitsN v, by cases b <;> simp⟩
theorem mem_div {v : List Bool} (h : v.length ≤ 5) : true :: v ++ [true] ∈ divisors := by
  unfold divisors
  rw [List.mem_flatMap]
  refine ⟨v.length, by rw [List.mem_range]; omega, ?_⟩
  rw [List.mem_map]
  exact ⟨v, mem_bitsN v, rfl⟩
theorem filt_filt (tab : List Nat) (n m kd b : Nat) : (Z tab n m).filter (fits kd b) = (subs n m).filter fun ps => fits kd b ps && (xs tab ps == 0) := by
  unfold Z
  rw [List.filter_filter]
/-- what the finite look has found -/
structure Found (d : List Bool) (n o : Nat) : Prop where
  ord : ord d = some o
  r0 : ∀ b, Right (missedOf d n 0 b) (paper d n (d.length - 1) 0 b) ∧ ∀ m, (missedOf d n 0 b).head? = some m → paper d n (d.length - 1) 0 b = missP m
  r1 : ∀ b, Right (missedOf d n 1 b) (paper d n (d.length - 1) 1 b)
  r2 : ∀ b, 0 < b → b ≤ 9 → Right (missedOf d n 2 b) (paper d n (d.length - 1) 2 b) ∧ ∀ m, (missedOf d n 2 b).head? = some m → paper d n (d.length - 1) 2 b = missP m
  last : ∃ ps, least (tabOf d (max n (d.length - 1 + 1))) (max n (d.length - 1 + 1)) = some ps ∧ (Z (tabOf d (max n (d.length - 1 + 1))) (max n (d.length - 1 + 1)) (max n (d.length - 1 + 1))).head? = some ps
theorem nil_of {α : Type} {l : List α} (h : l.isEmpty = true) : l = [] := by
  cases l with
  | nil => rfl
  | cons _ _ => cases h
theorem div_len {d : List Bool} (h : d ∈ divisors) : 1 < d.length ∧ d.length ≤ 7 := by
  have : ∀ d ∈ divisors, 1 < d.length ∧ d.length ≤ 7 := by decide +kernel
  exact this d h
theorem check_at {d : List Bool} {n : Nat} (hd : d ∈ divisors) (h1 : 2 ≤ n) (h2 : n ≤ 9) : check1 d n = true := by
  have h := check_ok
  unfold checkAll at h
  have h := List.all_eq_true.mp h d hd
  have h := List.all_eq_true.mp h (n - 2) (by rw [List.mem_range]; omega)
  rwa [show n - 2 + 2 = n by omega] at h
theorem last_at {d : List Bool} {n : Nat} (hd : d ∈ divisors) (h1 : 2 ≤ n) (h2 : n ≤ 9) (h3 : d.length - 1 + 1 ≤ n) : ∃ ps, least (tabOf d n) n = some ps ∧ (Z (tabOf d n) n n).head? = some ps := by
  have h := check_at hd h1 h2
  obtain ⟨l1, l2⟩ := div_len hd
  unfold check1 at h
  simp only [Bool.and_eq_true, ZP_eq _ _ _ l1 l2] at h
  obtain ⟨_, he⟩ := h
  rw [if_pos h3] at he
  cases hl : least (tabOf d n) n with
  | none => rw [hl] at he; cases he
  | some ps =>
    rw [hl] at he
    exact ⟨ps, rfl, eq_of_beq he⟩
theorem found {d : List Bool} {n : Nat} (hd : d ∈ divisors) (h1 : 2 ≤ n) (h2 : n ≤ 9) : ∃ o, Found d n o := by
  have h := check_at hd h1 h2
  obtain ⟨l1, l2⟩ := div_len hd
  unfold check1 at h
  simp only [Bool.and_eq_true, ZP_eq _ _ _ l1 l2] at h
  obtain ⟨⟨⟨ha, hb⟩, hc⟩, he⟩ := h
  cases ho : ord d with
  | none => rw [ho] at ha; cases ha
  | some o =>
    rw [ho] at ha
    have ha := eq_of_beq (show ((Z (tabOf d n) n 2).filter (fits 0 0)).head? == (if o + 1 < n then some [0, o + 1] else none) from ha)
    have hm0 : ∀ b, missedOf d n 0 b = (Z (tabOf d n) n 2).filter (fits 0 0) := fun b => (filt_filt (tabOf d n) n 2 0 0).symm
    have hm1 : ∀ b, missedOf d n 1 b = (Z (tabOf d n) n n).filter (fits 1 0) := fun b => (filt_filt (tabOf d n) n n 1 0).symm
    have hm2 : ∀ b, missedOf d n 2 b = (Z (tabOf d n) n n).filter (fits 2 b) := fun b => (filt_filt (tabOf d n) n n 2 b).symm
    have hp0 : ∀ b, paper d n (d.length - 1) 0 b = if o + 1 < n then missP [0, o + 1] else caughtP := fun b => by
      show (match ord d with | some o => if o + 1 < n then missP [0, o + 1] else caughtP | none => .non) = _
      rw [ho]
    refine ⟨o, ho, fun b => ?_, fun b => ?_, fun b hb0 hb9 => ?_, ?_⟩
    · rw [hm0, hp0]
      generalize (Z (tabOf d n) n 2).filter (fits 0 0) = M at *
      by_cases hc : o + 1 < n
      · rw [if_pos hc] at ha ⊢
        refine ⟨.inr ⟨_, rfl, List.mem_of_mem_head? ha⟩, fun m hm => ?_⟩
        rw [ha] at hm
        cases hm
        rfl
      · rw [if_neg hc] at ha ⊢
        rw [List.head?_eq_none_iff] at ha
        exact ⟨.inl ⟨rfl, ha⟩, fun m hm => by rw [ha] at hm; cases hm⟩
    · rw [hm1]
      have hp1 : paper d n (d.length - 1) 1 b = if (placesOf d).length % 2 = 1 ∧ d.length - 1 < n then missP (placesOf d) else caughtP := rfl
      rw [hp1]
      generalize (Z (tabOf d n) n n).filter (fits 1 0) = M at *
      by_cases hc : (placesOf d).length % 2 = 1 ∧ d.length - 1 < n
      · rw [if_pos hc] at hb ⊢
        exact .inr ⟨_, rfl, by simpa using hb⟩
      · rw [if_neg hc] at hb ⊢
        exact .inl ⟨rfl, nil_of hb⟩
    · have hc := List.all_eq_true.mp hc (b - 1) (by rw [List.mem_range]; omega)
      rw [show b - 1 + 1 = b by omega] at hc
      rw [hm2]
      have hp2 : paper d n (d.length - 1) 2 b = if min b n ≤ d.length - 1 then caughtP else .tup [.str missedS, opP (least (tabOf d (min b n)) (min b n))] := rfl
      rw [hp2]
      generalize (Z (tabOf d n) n n).filter (fits 2 b) = M at *
      by_cases hcc : min b n ≤ d.length - 1
      · rw [if_pos hcc] at hc ⊢
        have := nil_of hc
        exact ⟨.inl ⟨rfl, this⟩, fun m hm => by rw [this] at hm; cases hm⟩
      · rw [if_neg hcc] at hc ⊢
        cases hl : least (tabOf d (min b n)) (min b n) with
        | none => rw [hl] at hc; cases hc
        | some ps =>
          rw [hl] at hc
          have hc : M.head? = some ps := eq_of_beq hc
          refine ⟨.inr ⟨ps, rfl, List.mem_of_mem_head? hc⟩, fun m hm => ?_⟩
          rw [hc] at hm
          cases hm
          rfl
    · exact last_at hd (by omega) (by have := l2; omega) (Nat.le_max_right ..)
end Sw.k43
namespace Sw.k43
theorem bit_of {z : Nat} (h : z < 2) : P.int (z : Int) = bP (z == 1) := by
  match z, h with
  | 0, _ => rfl
  | 1, _ => rfl
/-- the divisor drawn -/
theorem c_div (k : Nat) (xs : List P) (hw : WC xs) : ∃ (xs' : List P) (v : List Bool), callF prog G (k + 3) 22 [.lst xs] = some (.imm (.tup (bits (true :: v ++ [true]))), [.lst xs']) ∧ WC xs' ∧ v.length ≤ 5 := by
  have key : ∃ r, callF prog G (k + 2 + 1) 22 [.lst xs] = some r ∧ ∃ (xs' : List P) (v : List Bool), r = (.imm (.tup (bits (true :: v ++ [true]))), [.lst xs']) ∧ WC xs' ∧ v.length ≤ 5 := by
    refine wp_all fun R hR => call_wp (fn := f__law_divisor_of) rfl rfl ?_
    simp only [f__law_divisor_of, b__law_divisor_of]
    have h1 : (1 : Nat) ≤ line := le_lineN (by omega)
    obtain ⟨ys, m, e1, hw1, hm⟩ := c_take k xs 6 hw (by omega) (by omega)
    have e1 : callF prog G (k + 2) 15 [.lst xs, .imm (.int 6)] = some (.imm (.int m), [.lst ys, .imm (.int 6)]) := e1
    refine wp_seq (fun q => ∃ (ys : List P) (v : List Bool), WC ys ∧ v.length = m ∧ q = (.nx, [some (.lst ys), some (.imm (.tup (bits v))), none])) (fun R hR => ?_) fun q hq => ?_
    · simp -implicitDefEqProofs [e1, it_rng1 (show m ≤ 1000000 by omega)]
      refine wp_comp (fun i acc e => ∃ (zs : List P) (v : List Bool), WC zs ∧ v.length = i ∧ acc = bits v ∧ e = [some (.lst zs), none, none]) ⟨ys, [], hw1, rfl, rfl, rfl⟩ (fun i p acc e hp hi => ?_) (fun acc e hi => ?_)
      · obtain ⟨zs, v, hz, hv, rfl, rfl⟩ := hi
        obtain ⟨hib, rfl⟩ := rng_get hp
        obtain ⟨us, b, e2, hw2, hb⟩ := c_take k zs 2 hz (by omega) (by omega)
        have e2 : callF prog G (k + 2) 15 [.lst zs, .imm (.int 2)] = some (.imm (.int b), [.lst us, .imm (.int 2)]) := e2
        have hlen : (bits v).length < line := lt_lineN (by rw [bits_len]; omega)
        simp -implicitDefEqProofs [stepCc, e2, hlen]
        refine ⟨us, hw2, v ++ [b == 1], by simp [hv], ?_, rfl⟩
        rw [bits_app, bit_of hb]
        rfl
      · obtain ⟨zs, v, hz, hv, rfl, rfl⟩ := hi
        rw [List.length_map, List.length_range] at hv
        have h2 : opSem .tuple [.lst (bits v)] = some (.imm (.tup (bits v))) := so_tupL (le_lineN (by rw [bits_len]; omega))
        simp -implicitDefEqProofs [h2]
        exact hR _ ⟨zs, v, hz, hv, rfl⟩
    obtain ⟨zs, v, hz, hv, rfl⟩ := hq
    have h3 : opSem .add [.imm (.tup [.int 1]), .imm (.tup (bits v))] = some (.imm (.tup (bits (true :: v)))) := by rw [so_addt (le_lineN (by rw [bits_len]; simp; omega))]; rfl
    have h4 : opSem .add [.imm (.tup (bits (true :: v))), .imm (.tup [.int 1])] = some (.imm (.tup (bits (true :: v ++ [true])))) := by rw [so_addt (le_lineN (by rw [bits_len]; simp; omega)), bits_app]; rfl
    have hfin : ∃ (xs' : List P) (u : List Bool), (D.imm (P.tup (bits (true :: v ++ [true]))), [D.lst zs]) = (.imm (.tup (bits (true :: u ++ [true]))), [.lst xs']) ∧ WC xs' ∧ u.length ≤ 5 := ⟨zs, v, rfl, hz, by omega⟩
    generalize bits (true :: v ++ [true]) = B at *
    simp -implicitDefEqProofs [h1, h3, h4, asgTs, asgT]
    exact hR _ hfin
  obtain ⟨r, e, xs', v, rfl, h1, h2⟩ := key
  exact ⟨xs', v, e, h1, h2⟩
theorem al_bits (v : List Bool) (h : v.length ≤ 500) : AL 1 (.tup (bits v)) := by
  refine ⟨by rw [bits_len]; exact h, fun p hp => ?_⟩
  unfold bits at hp
  obtain ⟨b, _, rfl⟩ := List.mem_map.mp hp
  trivial
theorem so_neT (u v : List Bool) : opSem .ne [.imm (.tup (bits u)), .imm (.tup (bits v))] = some (.imm (.bl (!decide (u = v)))) := by
  simp only [opSem, cmpEq, rd, depth, depths_bits]
  rw [if_pos (by decide)]
  simp only [Option.bind_some, peq, peqs_bits]
  rfl
theorem cut_from (l : List Bool) (r : Nat) : cutP (bits l) (some (r : Int)) none = bits (l.drop r) := by
  rw [cut_n0]
  unfold bits
  rw [List.map_drop]
theorem peqs_self (m : List Nat) : peqs (nat2 m) (nat2 m) = true := by
  have := peqs_nat2 m (m.map fun x : Nat => (x : Int))
  rw [List.map_map] at this
  have e : m.map (P.int ∘ fun x : Nat => (x : Int)) = nat2 m := rfl
  rw [e] at this
  rw [this]
  exact decide_eq_true rfl
theorem so_neM (m : List Nat) : opSem .ne [.imm (missP m), .imm (missP m)] = some (.imm (.bl false)) := by
  simp only [opSem, cmpEq, rd, missP, depth, depths, depths_nat2]
  rw [if_pos (by decide)]
  simp only [Option.bind_some, peq, peqs, peqs_self]
  rfl
theorem isPap_right {M : List (List Nat)} {pv : P} (h : Right M pv) : isPap M pv = true := by
  rcases h with ⟨rfl, rfl⟩ | ⟨ps, rfl, hps⟩
  · rfl
  · show papOk M missedS [.tup (nat2 ps)] = true
    unfold papOk
    rw [if_neg (by decide), if_pos rfl]
    show ((nat2 ps).all isI && M.any fun m => decide (nat2 m = nat2 ps)) = true
    rw [any_missed, decide_eq_true hps, Bool.and_true]
    unfold nat2
    rw [List.all_map, List.all_eq_true]
    intro x _
    rfl
theorem pw_cmp {d : List Bool} {r : Nat} (hd : d.length = r + 1) (h0 : 0 < r) (t : Nat) : ((num (res d r (rowOf [0, t + 1] (t + 2)))) == 0) = (pw d r (t + 1) == one r) := by
  have hn : ([0, t + 1] : List Nat).Nodup := by simp
  rw [res_row h0 [0, t + 1] hn (fun p hp => by simp at hp; omega)]
  show (num (xl (pw d r 0) (xl (pw d r (t + 1)) (zs r))) == 0) = _
  rw [xl_zs _ _ (pw_len h0 _), num_xl _ _ (by rw [pw_len h0, pw_len h0])]
  show (num (one r) ^^^ num (pw d r (t + 1)) == 0) = _
  have hl1 : (one r).length = r := pw_len (d := d) h0 0
  have hl2 := pw_len (d := d) h0 (t + 1)
  generalize pw d r (t + 1) = w at *
  generalize one r = u at *
  rw [Bool.eq_iff_iff, beq_iff_eq, beq_iff_eq, ← num_xl _ _ (by omega)]
  constructor
  · intro h
    have h2 := num_zero _ h
    have : ∀ (u w : List Bool), u.length = w.length → xl u w = zs (xl u w).length → w = u := by
      intro u
      induction u with
      | nil => intro w h _; exact List.eq_nil_of_length_eq_zero h.symm
      | cons a u ih =>
        intro w h h'
        cases w with
        | nil => simp at h
        | cons b w =>
          rw [xl_cons, List.length_cons, zs_succ, List.cons.injEq] at h'
          rw [ih w (by simpa using h) h'.2]
          have : a = b := by
            have := h'.1
            cases a <;> cases b <;> first | rfl | cases this
          rw [this]
    exact this u w (by omega) h2
  · rintro rfl
    rw [xl_self, num_zs]
theorem head_nat2 {l : List Nat} {a : Nat} (h : l.head? = some a) : atP (nat2 l) 0 = some (.int (a : Nat)) := by
  rw [show (0 : Int) = ((0 : Nat) : Int) from rfl]
  exact nat2_get (by rw [← List.head?_eq_getElem?]; exact h)
theorem head_tps {l : List (List Nat)} {a : List Nat} (h : l.head? = some a) : atP (tps l) 0 = some (.tup (nat2 a)) := by
  have h1 : l[0]? = some a := by rw [← List.head?_eq_getElem?]; exact h
  have h2 := (List.getElem?_eq_some_iff.mp h1).1
  rw [show (0 : Int) = ((0 : Nat) : Int) from rfl, at_nat (by rw [tps_len]; exact h2)]
  unfold tps
  rw [List.getElem?_map, h1] <;> rfl
theorem sm_nat2 {n d : Nat} {m : List Nat} (h : m.length ≤ n) : Sm n (d + 1) (.tup (nat2 m)) := sm_tup (by rw [nat2_len]; exact h) fun p hp => by
  unfold nat2 at hp
  obtain ⟨b, _, rfl⟩ := List.mem_map.mp hp
  exact sm_int
theorem right_sm {M : List (List Nat)} {pv : P} (h : Right M pv) (hM : ∀ m ∈ M, m.length ≤ 9) : Sm 20 3 pv := by
  rcases h with ⟨rfl, rfl⟩ | ⟨ps, rfl, hps⟩
  · exact sm_tup (by simp) fun p hp => by
      rw [List.mem_singleton.mp hp]
      exact sm_str (by decide)
  · refine sm_tup (by simp) fun p hp => ?_
    simp only [List.mem_cons, List.not_mem_nil, or_false] at hp
    rcases hp with rfl | rfl
    · exact sm_str (by decide)
    · exact sm_nat2 (by have := hM ps hps; omega)
theorem miss_sm {m : List Nat} (h : m.length ≤ 9) : Sm 22 7 (missP m) := by
  refine sm_tup (by simp) fun p hp => ?_
  simp only [List.mem_cons, List.not_mem_nil, or_false] at hp
  rcases hp with rfl | rfl
  · exact sm_str (by decide)
  · exact sm_nat2 (by omega)
theorem sm_pair {n d : Nat} {v : P} (hn : n ≤ 1000) (h : Sm n d v) : ∀ s ps, v = .tup [s, .tup ps] → ps.length ≤ 1000 := by
  rintro s ps rfl
  cases d with
  | zero => exact h.elim
  | succ d =>
    have h2 := h.2 (.tup ps) (by simp)
    cases d with
    | zero => exact h2.elim
    | succ d => exact Nat.le_trans h2.1 hn
end Sw.k43
namespace Sw.k43
theorem kind_odd (b : Nat) : ∀ kd, kd < 3 → opSem .idx [.imm (kindP kd b), .imm (.int 0)] = some (.imm (.str (match kd with | 0 => pair | 1 => odd | _ => burst)))
  | 0, _ => kp0 b
  | 1, _ => kp1 b
  | 2, _ => (kp2 0 b).1
theorem fr_succ (f : Nat → Bool) (i : Nat) : ((List.range (i + 1)).filter f).map (· + 1) = ((List.range i).filter f).map (· + 1) ++ (if f i then [i + 1] else []) := by
  rw [List.range_succ, List.filter_append, List.map_append]
  have : ([i].filter f).map (· + 1) = if f i then [i + 1] else [] := by cases hb : f i <;> simp [hb]
  rw [this]
theorem law_true (ns : List Int) (hns : ns.length ≤ 63) : ∃ rs, callF prog G 200 29 [.imm (.lst (ns.map P.int))] = some (.imm (.bl true), rs) := by
  have key : ∃ r, callF prog G (199 + 1) 29 [.imm (.lst (ns.map P.int))] = some r ∧ ∃ rs, r = (.imm (.bl true), rs) := by
    refine wp_all fun R hR => call_wp (fn := f_law) rfl rfl ?_
    simp only [f_law, b_law]
    have hl1 : (1 : Nat) ≤ line := le_lineN (by omega)
    have hl2 : (2 : Nat) ≤ line := le_lineN (by omega)
    have hl3 : (3 : Nat) ≤ line := le_lineN (by omega)
    obtain ⟨c1, e1, w1⟩ := c_start 198 ns hns
    have e1 : callF prog G 199 13 [.imm (.lst (ns.map P.int))] = some (.lst c1, [.imm (.lst (ns.map P.int))]) := e1
    generalize hS : D.imm (P.lst (ns.map P.int)) = S at *
    refine wp_seq (fun r => r = (.nx, [some S, some (.lst c1), none, none, none, none, none, none, none, none, none, none, none, none, none, none, none, none, none])) (fun R hR => ?_) fun r hr => ?_
    · subst hS
      simp -implicitDefEqProofs [e1]
      exact hR _ rfl
    subst hr
    obtain ⟨c2, v, e2, w2, hv⟩ := c_div 196 c1 w1
    have e2 : callF prog G 199 22 [.lst c1] = some (.imm (.tup (bits (true :: v ++ [true]))), [.lst c2]) := e2
    have hmem := mem_div hv
    obtain ⟨r, hdr⟩ : ∃ r, (true :: v ++ [true]).length = r + 1 := ⟨v.length + 1, by simp⟩
    have h0 : 0 < r := by simp at hdr; omega
    have hr6 : r ≤ 6 := by simp at hdr; omega
    generalize true :: v ++ [true] = d at *
    refine wp_seq (fun r => r = (.nx, [some S, some (.lst c2), some (.imm (.tup (bits d))), none, none, none, none, none, none, none, none, none, none, none, none, none, none, none, none])) (fun R hR => ?_) fun q hq => ?_
    · simp -implicitDefEqProofs [e2]
      exact hR _ rfl
    subst hq
    refine wp_seq (fun q => q = (.nx, [some S, some (.lst c2), some (.imm (.tup (bits d))), some (.imm (.int r)), none, none, none, none, none, none, none, none, none, none, none, none, none, none, none])) (fun R hR => ?_) fun q hq => ?_
    · have e : ((d.length : Nat) : Int) - 1 = r := by omega
      simp -implicitDefEqProofs [bits_len, e]
      exact hR _ rfl
    subst hq
    -- the row
    refine wp_seq (fun q => ∃ (c3 : List P) (w : List Bool), WC c3 ∧ w.length ≤ 19 ∧ q = (.nx, [some S, some (.lst c3), some (.imm (.tup (bits d))), some (.imm (.int r)), some (.imm (.tup (bits w))), none, none, none, none, none, none, none, none, none, none, none, none, none, none])) (fun R hR => ?_) fun q hq => ?_
    · obtain ⟨ys, m, e3, hw3, hm⟩ := c_take 197 c2 20 w2 (by omega) (by omega)
      have e3 : callF prog G 199 15 [.lst c2, .imm (.int 20)] = some (.imm (.int m), [.lst ys, .imm (.int 20)]) := e3
      generalize P.tup (bits d) = dP at *
      simp -implicitDefEqProofs [e3, it_rng1 (show m ≤ 1000000 by omega)]
      refine wp_comp (fun i acc e => ∃ (zs : List P) (w : List Bool), WC zs ∧ w.length = i ∧ acc = bits w ∧ e = [some S, some (.lst zs), some (.imm dP), some (.imm (.int r)), none, none, none, none, none, none, none, none, none, none, none, none, none, none, none]) ⟨ys, [], hw3, rfl, rfl, rfl⟩ (fun i p acc e hp hi => ?_) (fun acc e hi => ?_)
      · obtain ⟨zs, w, hz, hv, rfl, rfl⟩ := hi
        obtain ⟨hib, rfl⟩ := rng_get hp
        obtain ⟨us, b, e2, hw2, hb⟩ := c_take 197 zs 2 hz (by omega) (by omega)
        have e2 : callF prog G 199 15 [.lst zs, .imm (.int 2)] = some (.imm (.int b), [.lst us, .imm (.int 2)]) := e2
        have hlen : (bits w).length < line := lt_lineN (by rw [bits_len]; omega)
        simp -implicitDefEqProofs [stepCc, e2, hlen]
        refine ⟨us, hw2, w ++ [b == 1], by simp [hv], ?_, rfl⟩
        rw [bits_app, bit_of hb]
        rfl
      · obtain ⟨zs, w, hz, hv, rfl, rfl⟩ := hi
        rw [List.length_map, List.length_range] at hv
        have h2 : opSem .tuple [.lst (bits w)] = some (.imm (.tup (bits w))) := so_tupL (le_lineN (by rw [bits_len]; omega))
        simp -implicitDefEqProofs [h2]
        exact hR _ ⟨zs, w, hz, by omega, rfl⟩
    obtain ⟨c3, w, w3, hw, rfl⟩ := hq
    clear e1 e2 w1 w2
    have e4 : callF prog G 199 2 [.imm (.tup (bits d)), .imm (.tup (bits w))] = some (.imm (.tup (bits (res d r w))), [.imm (.tup (bits d)), .imm (.tup (bits w))]) := c_remainder 197 d w r hdr h0 (by omega) (by omega)
    have e5 : callF prog G 199 23 [.imm (.tup (bits d)), .imm (.tup (bits w))] = some (.imm (.tup (bits (res d r w))), [.imm (.tup (bits d)), .imm (.tup (bits w))]) := c_lrest 198 d w r hdr h0 (by omega) (by omega)
    have e6 : callF prog G 199 17 [.imm (.tup (bits (res d r w))), .imm (.tup (bits (res d r w)))] = some (.imm (.bl true), [.imm (.tup (bits (res d r w))), .imm (.tup (bits (res d r w)))]) := c_alike 1 197 _ (al_bits _ (by rw [res_len h0]; omega))
    have e7 : callF prog G 199 3 [.imm (.tup (bits d)), .imm (.tup (bits w))] = some (.imm (.tup (bits (res d r (zs r ++ w) ++ w))), [.imm (.tup (bits d)), .imm (.tup (bits w))]) := c_check 196 d w r hdr h0 (by omega) (by omega)
    have hrl : (res d r (zs r ++ w)).length = r := res_len h0 _
    have hrc := res_check (d := d) h0 w
    generalize hQ : res d r (zs r ++ w) = Qr at *
    have e8 : callF prog G 199 23 [.imm (.tup (bits d)), .imm (.tup (bits (Qr ++ w)))] = some (.imm (.tup (bits (zs r))), [.imm (.tup (bits d)), .imm (.tup (bits (Qr ++ w)))]) := by
      have := c_lrest 198 d (Qr ++ w) r hdr h0 (by omega) (by rw [List.length_append]; omega)
      rwa [hrc] at this
    have h9 : cutP (bits (Qr ++ w)) (some (r : Int)) none = bits w := by
      rw [cut_from, List.drop_append_of_le_length (by omega), List.drop_of_length_le (by omega), List.nil_append]
    have h10 := so_neT w w
    rw [decide_eq_true rfl] at h10
    have h11 : ((bits (Qr ++ w)).length : Int) = (r : Int) + ((bits w).length : Int) := by rw [bits_len, bits_len, List.length_append]; omega
    have h12 := so_anyB (zs r)
    rw [(any_zs (zs r)).mpr (num_zs r)] at h12
    generalize bits (Qr ++ w) = QP at *
    generalize bits (zs r) = ZPp at *
    generalize bits (res d r w) = WP at *
    refine wp_seq (fun q => q = (.nx, [some S, some (.lst c3), some (.imm (.tup (bits d))), some (.imm (.int r)), some (.imm (.tup (bits w))), none, none, none, none, none, none, none, none, none, none, none, none, none, none])) (fun R hR => ?_) fun q hq => ?_
    · generalize bits w = wP at *
      generalize bits d = dP at *
      simp -implicitDefEqProofs [e4, e5, e6]
      exact hR _ rfl
    subst hq
    refine wp_seq (fun q => q = (.nx, [some S, some (.lst c3), some (.imm (.tup (bits d))), some (.imm (.int r)), some (.imm (.tup (bits w))), some (.imm (.tup QP)), none, none, none, none, none, none, none, none, none, none, none, none, none])) (fun R hR => ?_) fun q hq => ?_
    · generalize bits w = wP at *
      generalize bits d = dP at *
      simp -implicitDefEqProofs [e7]
      exact hR _ rfl
    subst hq
    refine wp_seq (fun q => q = (.nx, [some S, some (.lst c3), some (.imm (.tup (bits d))), some (.imm (.int r)), some (.imm (.tup (bits w))), some (.imm (.tup QP)), none, none, none, none, none, none, none, none, none, none, none, none, none])) (fun R hR => ?_) fun q hq => ?_
    · generalize bits w = wP at *
      generalize bits d = dP at *
      simp -implicitDefEqProofs [h9, h10, h11, e8, h12]
      exact hR _ rfl
    subst hq
    -- the order
    obtain ⟨n0, hn0, hn9⟩ : ∃ n0 : Nat, 2 ≤ n0 ∧ n0 ≤ 9 := ⟨2, by omega, by omega⟩
    obtain ⟨o, fo0⟩ := found hmem hn0 hn9
    have ho := fo0.ord
    clear fo0 hn0 hn9
    have ho2 := ho
    unfold ord at ho2
    rw [show d.length - 1 = r by omega] at ho2
    have hoH : ((List.range 64).filter fun t => pw d r (t + 1) == one r).head? = some o := by rw [List.head?_filter]; exact ho2
    have e9 : callF prog G 199 5 [.imm (.tup (bits d))] = some (.imm (.int ((o + 1 : Nat) : Int)), [.imm (.tup (bits d))]) := c_order 197 d r o hdr h0 (by omega) ho
    refine wp_seq (fun q => q = (.nx, [some S, some (.lst c3), some (.imm (.tup (bits d))), some (.imm (.int r)), some (.imm (.tup (bits w))), some (.imm (.tup QP)), some (.imm (.int ((o + 1 : Nat) : Int))), none, none, none, none, none, none, none, none, none, none, none, none])) (fun R hR => ?_) fun q hq => ?_
    · have hit := it_rng2 (i := 1) (j := 65) (by omega)
      rw [show ((65 : Int) - 1).toNat = 64 by decide] at hit
      simp -implicitDefEqProofs [hit]
      refine wp_comp (fun i acc e => acc = nat2 (((List.range i).filter fun t => pw d r (t + 1) == one r).map (· + 1)) ∧ i ≤ 64 ∧ e = [some S, some (.lst c3), some (.imm (.tup (bits d))), some (.imm (.int r)), some (.imm (.tup (bits w))), some (.imm (.tup QP)), none, none, none, none, none, none, none, none, none, none, none, none, none]) ⟨rfl, by omega, rfl⟩ (fun i p acc e hp hi => ?_) (fun acc e hi => ?_)
      · obtain ⟨rfl, hi64, rfl⟩ := hi
        have hlt : i < 64 := by
          have := (List.getElem?_eq_some_iff.mp hp).1
          simpa using this
        obtain rfl : p = .int (1 + (i : Int)) := by
          rw [List.getElem?_map, List.getElem?_range hlt] at hp
          exact (Option.some.inj hp).symm
        have hlen : (nat2 (((List.range i).filter fun t => pw d r (t + 1) == one r).map (· + 1))).length < line := lt_lineN (by
          rw [nat2_len, List.length_map]
          exact Nat.le_trans (List.length_filter_le _ _) (by rw [List.length_range]; omega))
        obtain ⟨t, ht⟩ : ∃ t : Nat, t = i + 1 := ⟨_, rfl⟩
        have hti : (1 : Int) + (i : Int) = (t : Int) := by omega
        rw [hti]
        have ht1 : (t : Int) + 1 = ((i + 2 : Nat) : Int) := by omega
        have e24 : callF prog G 199 24 [.imm (.tup [.int 0, .int (t : Int)]), .imm (.int ((i + 2 : Nat) : Int))] = some (.imm (.tup (bits (rowOf [0, i + 1] (i + 2)))), [.imm (.tup [.int 0, .int (t : Int)]), .imm (.int ((i + 2 : Nat) : Int))]) := by
          have := c_row 198 (i + 2) [0, t] (by omega)
          rw [ht] at this ⊢
          exact this
        have e23 : callF prog G 199 23 [.imm (.tup (bits d)), .imm (.tup (bits (rowOf [0, i + 1] (i + 2))))] = some (.imm (.tup (bits (res d r (rowOf [0, i + 1] (i + 2))))), [.imm (.tup (bits d)), .imm (.tup (bits (rowOf [0, i + 1] (i + 2))))]) := c_lrest 198 d _ r hdr h0 (by omega) (by simp [rowOf]; omega)
        have hany := so_anyB (res d r (rowOf [0, i + 1] (i + 2)))
        have hx : (!(res d r (rowOf [0, i + 1] (i + 2))).any id) = (pw d r (i + 1) == one r) := by rw [any_num, pw_cmp hdr h0]
        have hr1 : ((List.range (i + 1)).filter fun t => pw d r (t + 1) == one r).map (· + 1) = ((List.range i).filter fun t => pw d r (t + 1) == one r).map (· + 1) ++ (if (!(res d r (rowOf [0, i + 1] (i + 2))).any id) then [t] else []) := by
          rw [hx, ht]
          exact fr_succ (fun t => pw d r (t + 1) == one r) i
        rw [hr1, ← nat2_app]
        generalize ((i + 2 : Nat) : Int) = i2 at *
        generalize bits (res d r (rowOf [0, i + 1] (i + 2))) = RP at *
        generalize bits (rowOf [0, i + 1] (i + 2)) = RO at *
        generalize (res d r (rowOf [0, i + 1] (i + 2))).any id = an at *
        generalize nat2 (((List.range i).filter fun t => pw d r (t + 1) == one r).map (· + 1)) = acc at *
        generalize bits d = dP at *
        generalize bits w = wP at *
        cases an with
        | true =>
          simp -implicitDefEqProofs [stepCc, ht1, e24, e23, hany, hl2]
          exact ⟨by simp [nat2], by omega⟩
        | false =>
          simp -implicitDefEqProofs [stepCc, ht1, e24, e23, hany, hl2, hlen]
          exact ⟨by simp [nat2], by omega⟩
      · obtain ⟨rfl, hi64, rfl⟩ := hi
        rw [List.length_map, List.length_range]
        have hh := head_nat2 (l := ((List.range 64).filter fun t => pw d r (t + 1) == one r).map (· + 1)) (a := o + 1) (by rw [List.head?_map, hoH] <;> rfl)
        generalize nat2 (((List.range 64).filter fun t => pw d r (t + 1) == one r).map (· + 1)) = acc at *
        generalize ((o + 1 : Nat) : Int) = O1 at *
        simp -implicitDefEqProofs [hh]
        exact hR _ rfl
    subst hq
    refine wp_seq (fun q => q = (.nx, [some S, some (.lst c3), some (.imm (.tup (bits d))), some (.imm (.int r)), some (.imm (.tup (bits w))), some (.imm (.tup QP)), some (.imm (.int ((o + 1 : Nat) : Int))), none, none, none, none, none, none, none, none, none, none, none, none])) (fun R hR => ?_) fun q hq => ?_
    · generalize ((o + 1 : Nat) : Int) = O1 at *
      simp -implicitDefEqProofs [e9]
      exact hR _ rfl
    subst hq
    clear hoH ho2 e4 e5 e6 e7 e8 h9 h10 h11 h12 hrc hQ hrl e9
    generalize ((o + 1 : Nat) : Int) = O1 at *
    generalize D.imm (.tup (bits w)) = wP at *
    generalize D.imm (.tup QP) = qP at *
    -- how many signs
    obtain ⟨c4, n8, e10, w4, hn8⟩ := c_take 197 c3 8 w3 (by omega) (by omega)
    have e10 : callF prog G 199 15 [.lst c3, .imm (.int 8)] = some (.imm (.int n8), [.lst c4, .imm (.int 8)]) := e10
    obtain ⟨n, hn⟩ : ∃ n, n = 2 + n8 := ⟨_, rfl⟩
    have hn2 : 2 ≤ n := by omega
    have hn9 : n ≤ 9 := by omega
    refine wp_seq (fun q => q = (.nx, [some S, some (.lst c4), some (.imm (.tup (bits d))), some (.imm (.int r)), some wP, some qP, some (.imm (.int O1)), some (.imm (.int n)), none, none, none, none, none, none, none, none, none, none, none])) (fun R hR => ?_) fun q hq => ?_
    · have hnn : (2 : Int) + (n8 : Int) = (n : Int) := by omega
      simp -implicitDefEqProofs [e10, hnn]
      exact hR _ rfl
    subst hq
    obtain ⟨o', fo⟩ := found hmem hn2 hn9
    obtain rfl : o' = o := by
      have := fo.ord
      rw [ho] at this
      exact (Option.some.inj this).symm
    -- the kinds
    obtain ⟨c5, b9, e11, w5, hb9⟩ := c_take 197 c4 9 w4 (by omega) (by omega)
    have e11 : callF prog G 199 15 [.lst c4, .imm (.int 9)] = some (.imm (.int b9), [.lst c5, .imm (.int 9)]) := e11
    obtain ⟨b, hb⟩ : ∃ b, b = 1 + b9 := ⟨_, rfl⟩
    have hb0 : 0 < b := by omega
    have hb9 : b ≤ 9 := by omega
    have hright : ∀ kd, kd < 3 → Right (missedOf d n kd b) (paper d n r kd b) ∧ (kd ≠ 1 → ∀ m, (missedOf d n kd b).head? = some m → paper d n r kd b = missP m) := fun kd hkd => by
      have hr1 : d.length - 1 = r := by omega
      match kd, hkd with
      | 0, _ => have := fo.r0 b; rw [hr1] at this; exact ⟨this.1, fun _ => this.2⟩
      | 1, _ => have := fo.r1 b; rw [hr1] at this; exact ⟨this, fun h => absurd rfl h⟩
      | 2, _ => have := fo.r2 b hb0 hb9; rw [hr1] at this; exact ⟨this.1, fun _ => this.2⟩
    refine wp_seq (fun q => ∃ (c6 : List P) (x8 x11 x12 x13 x14 x15 : Option D), q = (.nx, [some S, some (.lst c6), some (.imm (.tup (bits d))), some (.imm (.int r)), some wP, some qP, some (.imm (.int O1)), some (.imm (.int n)), x8, none, none, x11, x12, x13, x14, x15, none, none, none])) (fun R hR => ?_) fun q hq => ?_
    · have hbb : (1 : Int) + (b9 : Int) = (b : Int) := by omega
      simp -implicitDefEqProofs [e11, hbb, hl1, hl2, hl3]
      refine wp_for (fun i e => ∃ (c6 : List P) (x8 x11 x12 x13 x14 x15 : Option D), WC c6 ∧ e = [some S, some (.lst c6), some (.imm (.tup (bits d))), some (.imm (.int r)), some wP, some qP, some (.imm (.int O1)), some (.imm (.int n)), x8, none, none, x11, x12, x13, x14, x15, none, none, none]) ⟨c5, none, none, none, none, none, none, w5, rfl⟩ (fun i p e hp hi => ?_) (fun e hi => ?_)
      · obtain ⟨c6, x8, x11, x12, x13, x14, x15, w6, rfl⟩ := hi
        have hi3 : i < 3 := by
          have := (List.getElem?_eq_some_iff.mp hp).1
          simpa using this
        obtain rfl : p = kindP i b := by
          match i, hi3 with
          | 0, _ => exact (Option.some.inj hp).symm
          | 1, _ => exact (Option.some.inj hp).symm
          | 2, _ => exact (Option.some.inj hp).symm
        obtain ⟨hRt, hHd⟩ := hright i hi3
        have e26 : callF prog G 199 26 [.imm (.tup (bits d)), .imm (.int n), .imm (kindP i b)] = some (.lst (tps (missedOf d n i b)), [.imm (.tup (bits d)), .imm (.int n), .imm (kindP i b)]) := c_missed 197 d r n i b hdr h0 (by omega) hn2 hn9
        have e9 : callF prog G 199 9 [.imm (.tup (bits d)), .imm (.int n), .imm (kindP i b)] = some (.imm (paper d n r i b), [.imm (.tup (bits d)), .imm (.int n), .imm (kindP i b)]) := c_paper 89 d r n i b o' hdr h0 (by omega) (by omega) (by omega) hb0 (by omega) ho
        have eJ : ∀ (u : P), (∀ s ps, u = .tup [s, .tup ps] → ps.length ≤ 1000) → callF prog G 199 11 [.imm (.tup (bits d)), .imm (.int n), .imm (kindP i b), .imm u] = some (.imm (.bl (isPap (missedOf d n i b) u)), [.imm (.tup (bits d)), .imm (.int n), .imm (kindP i b), .imm u]) := fun u hu => c_judge 79 d r n i b o' u hdr h0 (by omega) hn2 hn9 hb0 (by omega) ho hRt hu
        have eP : ∀ (u : P), (∀ s ps, u = .tup [s, .tup ps] → ps.length ≤ 1000) → callF prog G 199 28 [.imm (.tup (bits d)), .imm (.int n), .imm (kindP i b), .lst (tps (missedOf d n i b)), .imm u] = some (.imm (.bl (isPap (missedOf d n i b) u)), [.imm (.tup (bits d)), .imm (.int n), .imm (kindP i b), .lst (tps (missedOf d n i b)), .imm u]) := fun u hu => c_is_paper 197 (kindP i b) (.tup (bits d)) n (missedOf d n i b) u hu
        have hML : ∀ m ∈ missedOf d n i b, m.length ≤ 9 := fun m hm => by
          obtain ⟨_, h2, h3, _⟩ := mem_missed.mp hm
          have := asc_le h2 h3
          omega
        have hki := kind_odd b i hi3
        have hsm := right_sm hRt hML
        have hMl : (missedOf d n i b).length ≤ 600 := by
          unfold missedOf
          have h1 := subs_small n (by omega) (most i n) (by unfold most; split <;> omega)
          exact Nat.le_trans (List.length_filter_le _ _) h1
        have hpr := isPap_right hRt
        generalize missedOf d n i b = M at *
        generalize paper d n r i b = pv at *
        generalize kindP i b = K at *
        generalize P.tup (bits d) = dP at *
        simp -implicitDefEqProofs only [stepFf, sx_bp1, Option.bind_some, List.set_cons_succ, List.set_cons_zero]
        refine wp_seq (fun q => q = (.nx, [some S, some (.lst c6), some (.imm dP), some (.imm (.int r)), some wP, some qP, some (.imm (.int O1)), some (.imm (.int n)), some (.imm K), none, none, some (.lst (tps M)), x12, x13, x14, x15, none, none, none])) (fun R' hR' => ?_) fun q hq => ?_
        · simp -implicitDefEqProofs [e26]
          exact hR' _ rfl
        subst hq
        refine wp_seq (fun q => q = (.nx, [some S, some (.lst c6), some (.imm dP), some (.imm (.int r)), some wP, some qP, some (.imm (.int O1)), some (.imm (.int n)), some (.imm K), none, none, some (.lst (tps M)), some (.imm pv), x13, x14, x15, none, none, none])) (fun R' hR' => ?_) fun q hq => ?_
        · simp -implicitDefEqProofs [e9]
          exact hR' _ rfl
        subst hq
        have ePv := eP pv (sm_pair (by omega) hsm)
        rw [hpr] at ePv
        refine wp_seq (fun q => q = (.nx, [some S, some (.lst c6), some (.imm dP), some (.imm (.int r)), some wP, some qP, some (.imm (.int O1)), some (.imm (.int n)), some (.imm K), none, none, some (.lst (tps M)), some (.imm pv), x13, x14, x15, none, none, none])) (fun R' hR' => ?_) fun q hq => ?_
        · simp -implicitDefEqProofs [ePv]
          exact hR' _ rfl
        subst hq
        refine wp_seq (fun q => q = (.nx, [some S, some (.lst c6), some (.imm dP), some (.imm (.int r)), some wP, some qP, some (.imm (.int O1)), some (.imm (.int n)), some (.imm K), none, none, some (.lst (tps M)), some (.imm pv), x13, x14, x15, none, none, none])) (fun R' hR' => ?_) fun q hq => ?_
        · cases hM : M with
          | nil =>
            match i, hi3, hki with
            | 0, _, hki => simp -implicitDefEqProofs [hki, pair, tps]; exact hR' _ (by rw [hM] <;> rfl)
            | 1, _, hki => simp -implicitDefEqProofs [hki, odd, tps]; exact hR' _ (by rw [hM] <;> rfl)
            | 2, _, hki => simp -implicitDefEqProofs [hki, burst, tps]; exact hR' _ (by rw [hM] <;> rfl)
          | cons m M' =>
            have ht : atP (tps (m :: M')) 0 = some (.tup (nat2 m)) := head_tps rfl
            have hne := so_neM m
            have hem : (tps (m :: M')).isEmpty = false := rfl
            have hnn : tps (m :: M') ≠ [] := fun e => by cases e
            match i, hi3, hki, hHd with
            | 0, _, hki, hHd =>
              have hpm := hHd (by decide) m (by rw [hM] <;> rfl)
              subst hpm
              rw [hM] at hR'
              have hne : opSem .ne [.imm (missP m), .imm (.tup [.str [109, 105, 115, 115, 101, 100], .tup (nat2 m)])] = some (.imm (.bl false)) := hne
              generalize tps (m :: M') = TP at *
              generalize missP m = mp at *
              simp -implicitDefEqProofs [hki, pair, hnn, hem, ht, hl2, hne]
              exact hR' _ rfl
            | 1, _, hki, hHd =>
              rw [hM] at hR'
              generalize tps (m :: M') = TP at *
              simp -implicitDefEqProofs [hki, odd]
              exact hR' _ rfl
            | 2, _, hki, hHd =>
              have hpm := hHd (by decide) m (by rw [hM] <;> rfl)
              subst hpm
              rw [hM] at hR'
              have hne : opSem .ne [.imm (missP m), .imm (.tup [.str [109, 105, 115, 115, 101, 100], .tup (nat2 m)])] = some (.imm (.bl false)) := hne
              generalize tps (m :: M') = TP at *
              generalize missP m = mp at *
              simp -implicitDefEqProofs [hki, burst, hnn, hem, ht, hl2, hne]
              exact hR' _ rfl
        subst hq
        -- the bent ones
        refine wp_seq (fun q => ∃ (c7 : List P) (x13 x14 x15 : Option D), WC c7 ∧ q = (.nx, [some S, some (.lst c7), some (.imm dP), some (.imm (.int r)), some wP, some qP, some (.imm (.int O1)), some (.imm (.int n)), some (.imm K), none, none, some (.lst (tps M)), some (.imm pv), x13, x14, x15, none, none, none])) (fun R' hR' => ?_) fun q hq => ?_
        · have h5 : items .rng1 [.imm (.int 5)] = some ((List.range 5).map fun k : Nat => P.int (k : Int)) := it_rng1 (n := 5) (by omega)
          simp -implicitDefEqProofs [h5]
          refine wp_for (fun j e => ∃ (c7 : List P) (x13 x14 x15 : Option D), WC c7 ∧ e = [some S, some (.lst c7), some (.imm dP), some (.imm (.int r)), some wP, some qP, some (.imm (.int O1)), some (.imm (.int n)), some (.imm K), none, none, some (.lst (tps M)), some (.imm pv), x13, x14, x15, none, none, none]) ⟨c6, x13, x14, x15, w6, rfl⟩ (fun j p e hp hi => ?_) (fun e hi => ?_)
          · obtain ⟨c7, x13, x14, x15, w7, rfl⟩ := hi
            obtain ⟨hj5, rfl⟩ := rng_get hp
            obtain ⟨c8, u, e21, w8, hs8⟩ := c_bent 149 20 3 j c7 pv w7 (by omega) (by omega) (by omega) hsm
            have e21 : callF prog G 199 21 [.lst c7, .imm pv, .imm (.int j)] = some (.imm u, [.lst c8, .imm pv, .imm (.int j)]) := e21
            simp -implicitDefEqProofs only [stepFf, sx_bp1, Option.bind_some, List.set_cons_succ, List.set_cons_zero]
            refine wp_seq (fun q => q = (.nx, [some S, some (.lst c8), some (.imm dP), some (.imm (.int r)), some wP, some qP, some (.imm (.int O1)), some (.imm (.int n)), some (.imm K), none, none, some (.lst (tps M)), some (.imm pv), some (.imm (.int j)), some (.imm u), x15, none, none, none])) (fun R2 hR2 => ?_) fun q hq => ?_
            · simp -implicitDefEqProofs [e21]
              exact hR2 _ rfl
            subst hq
            refine wp_seq (fun q => ∃ (c9 : List P) (z : P), WC c9 ∧ Sm 22 7 z ∧ q = (.nx, [some S, some (.lst c9), some (.imm dP), some (.imm (.int r)), some wP, some qP, some (.imm (.int O1)), some (.imm (.int n)), some (.imm K), none, none, some (.lst (tps M)), some (.imm pv), some (.imm (.int j)), some (.imm z), x15, none, none, none])) (fun R2 hR2 => ?_) fun q hq => ?_
            · by_cases hM0 : M = []
              · subst hM0
                simp -implicitDefEqProofs [tps]
                exact hR2 _ ⟨c8, u, w8, hs8, rfl⟩
              · obtain ⟨c9, t3, e15, w9, ht3⟩ := c_take 197 c8 3 w8 (by omega) (by omega)
                have e15 : callF prog G 199 15 [.lst c8, .imm (.int 3)] = some (.imm (.int t3), [.lst c9, .imm (.int 3)]) := e15
                have hMp : 0 < M.length := List.length_pos_iff.mpr hM0
                have hem : (tps M).isEmpty = false := by cases M <;> first | exact absurd rfl hM0 | rfl
                have hnn : tps M ≠ [] := fun e => by rw [e] at hem; cases hem
                by_cases ht0 : t3 = 0
                · subst ht0
                  obtain ⟨c10, ix, e15b, w10, hix⟩ := c_take 197 c9 M.length w9 hMp (by omega)
                  have e15b : callF prog G 199 15 [.lst c9, .imm (.int M.length)] = some (.imm (.int ix), [.lst c10, .imm (.int M.length)]) := e15b
                  have hMi : M[ix]? = some M[ix] := List.getElem?_eq_getElem hix
                  have hat : atP (tps M) (ix : Int) = some (.tup (nat2 M[ix])) := by
                    rw [at_nat (by rw [tps_len]; exact hix)]
                    unfold tps
                    rw [List.getElem?_map, hMi] <;> rfl
                  have hms : Sm 22 7 (missP M[ix]) := miss_sm (hML _ (List.getElem_mem hix))
                  have htl := tps_len M
                  have hmP : P.tup [.str [109, 105, 115, 115, 101, 100], .tup (nat2 M[ix])] = missP M[ix] := rfl
                  generalize nat2 M[ix] = mi at *
                  generalize missP M[ix] = mx at *
                  generalize tps M = TP at *
                  simp -implicitDefEqProofs [hnn, hem, e15, htl, e15b, hat, hl2, hmP]
                  exact hR2 _ ⟨c10, mx, w10, hms, rfl⟩
                · simp -implicitDefEqProofs [hnn, hem, e15, ht0]
                  exact hR2 _ ⟨c9, u, w9, hs8, rfl⟩
            obtain ⟨c9, z, w9, hz, rfl⟩ := hq
            have eJz := eJ z (sm_pair (by omega) hz)
            have ePz := eP z (sm_pair (by omega) hz)
            generalize isPap M z = bz at *
            generalize tps M = TP at *
            simp -implicitDefEqProofs [eJz, ePz, isTy, so_neB]
            exact w9
          · obtain ⟨c7, x13, x14, x15, w7, rfl⟩ := hi
            exact hR' _ ⟨c7, x13, x14, x15, w7, rfl⟩
        obtain ⟨c7, x13, x14, x15, w7, rfl⟩ := hq
        simp -implicitDefEqProofs
        exact w7
      · obtain ⟨c6, x8, x11, x12, x13, x14, x15, w6, rfl⟩ := hi
        exact hR _ ⟨c6, x8, x11, x12, x13, x14, x15, rfl⟩
    obtain ⟨c6, x8, x11, x12, x13, x14, x15, rfl⟩ := hq
    -- the fewest
    obtain ⟨ps, hps1, hps2⟩ := fo.last
    rw [show d.length - 1 + 1 = r + 1 by omega] at hps1 hps2
    obtain ⟨m, hm⟩ : ∃ m, m = max n (r + 1) := ⟨_, rfl⟩
    rw [← hm] at hps1 hps2
    have hm9 : m ≤ 9 := by omega
    have hm1 : 0 < m := by omega
    refine wp_seq (fun q => q = (.nx, [some S, some (.lst c6), some (.imm (.tup (bits d))), some (.imm (.int r)), some wP, some qP, some (.imm (.int O1)), some (.imm (.int n)), x8, some (.imm (.int m)), none, x11, x12, x13, x14, x15, none, none, none])) (fun R hR => ?_) fun q hq => ?_
    · have hmx : opSem .max2 [.imm (.int n), .imm (.int ((r : Int) + 1))] = some (.imm (.int m)) := by
        rw [so_max]
        congr 3
        split <;> omega
      simp -implicitDefEqProofs [hmx, -so_max]
      exact hR _ rfl
    subst hq
    have e25 : callF prog G 199 25 [.imm (.int m), .imm (.int m)] = some (.lst (tps (subs m m)), [.imm (.int m), .imm (.int m)]) := c_subsets 198 m m hm9 hm9
    have hsS := subs_small m (by omega) m (by omega)
    have hmS : ∀ qs ∈ subs m m, asc qs = true ∧ ∀ p ∈ qs, p < m := fun qs h => by
      obtain ⟨_, _, h3, h4⟩ := mem_subs.mp h
      exact ⟨h3, h4⟩
    have hZ : Z (tabOf d m) m m = (subs m m).filter fun qs => xs (tabOf d m) qs == 0 := rfl
    rw [hZ] at hps2
    have hpin : ps ∈ subs m m := (List.mem_filter.mp (List.mem_of_mem_head? hps2)).1
    have hpl : ps.length ≤ 9 := by
      obtain ⟨h3, h4⟩ := hmS ps hpin
      have := asc_le h3 h4
      omega
    refine wp_seq (fun q => q = (.nx, [some S, some (.lst c6), some (.imm (.tup (bits d))), some (.imm (.int r)), some wP, some qP, some (.imm (.int O1)), some (.imm (.int n)), x8, some (.imm (.int m)), some (.imm (.tup (nat2 ps))), x11, x12, x13, x14, x15, none, none, none])) (fun R hR => ?_) fun q hq => ?_
    · generalize subs m m = SS at *
      simp -implicitDefEqProofs [e25]
      refine wp_comp (fun i acc e => acc = tps ((SS.take i).filter fun qs => xs (tabOf d m) qs == 0) ∧ e = [some S, some (.lst c6), some (.imm (.tup (bits d))), some (.imm (.int r)), some wP, some qP, some (.imm (.int O1)), some (.imm (.int n)), x8, some (.imm (.int m)), none, x11, x12, x13, x14, x15, none, none, none]) ⟨rfl, rfl⟩ (fun i p acc e hp hi => ?_) (fun acc e hi => ?_)
      · obtain ⟨rfl, rfl⟩ := hi
        obtain ⟨qs, hqs, rfl⟩ := tps_get hp
        obtain ⟨m2, m3⟩ := hmS qs (List.mem_of_getElem? hqs)
        have e24 : callF prog G 199 24 [.imm (.tup (nat2 qs)), .imm (.int m)] = some (.imm (.tup (bits (rowOf qs m))), [.imm (.tup (nat2 qs)), .imm (.int m)]) := c_row 198 m qs (by omega)
        have e23 : callF prog G 199 23 [.imm (.tup (bits d)), .imm (.tup (bits (rowOf qs m)))] = some (.imm (.tup (bits (res d r (rowOf qs m)))), [.imm (.tup (bits d)), .imm (.tup (bits (rowOf qs m)))]) := c_lrest 198 d (rowOf qs m) r hdr h0 (by omega) (by simp [rowOf]; omega)
        have hany := so_anyB (res d r (rowOf qs m))
        have hx : (!(res d r (rowOf qs m)).any id) = (xs (tabOf d m) qs == 0) := by rw [any_num, num_row hdr h0 (asc_nodup qs m2) m3]
        have htk := filter_take_succ (fun qs => xs (tabOf d m) qs == 0) hqs
        have hlen : (tps ((SS.take i).filter fun qs => xs (tabOf d m) qs == 0)).length < line := lt_lineN (by
          rw [tps_len]
          have h1 := List.length_filter_le (fun qs => xs (tabOf d m) qs == 0) (SS.take i)
          rw [List.length_take] at h1
          omega)
        rw [htk, tps_app]
        rw [← hx]
        generalize tps ((SS.take i).filter fun qs => xs (tabOf d m) qs == 0) = A at *
        generalize bits (res d r (rowOf qs m)) = RP at *
        generalize bits (rowOf qs m) = RO at *
        generalize (res d r (rowOf qs m)).any id = an at *
        generalize bits d = dP at *
        cases an with
        | true => simp -implicitDefEqProofs [stepCc, e24, e23, hany, tps]
        | false => simp -implicitDefEqProofs [stepCc, e24, e23, hany, hlen, tps]
      · obtain ⟨rfl, rfl⟩ := hi
        rw [tps_len, List.take_length]
        have hh := head_tps hps2
        generalize tps (SS.filter fun qs => xs (tabOf d m) qs == 0) = A at *
        simp -implicitDefEqProofs [hh]
        exact hR _ rfl
    subst hq
    have e12 : callF prog G 199 12 [.imm (.tup (bits d)), .imm (.int m)] = some (.imm (.tup [.int ps.length, .tup (nat2 ps)]), [.imm (.tup (bits d)), .imm (.int m)]) := c_least_missed 89 d r m ps hdr h0 (by omega) hm1 (by omega) hps1
    have hAL : AL 2 (.tup [.int ps.length, .tup (nat2 ps)]) := by
      refine ⟨by simp, fun p hp => ?_⟩
      simp only [List.mem_cons, List.not_mem_nil, or_false] at hp
      rcases hp with rfl | rfl
      · trivial
      · exact al_nat2 _ (by omega)
    have e17 : callF prog G 199 17 [.imm (.tup [.int ps.length, .tup (nat2 ps)]), .imm (.tup [.int ps.length, .tup (nat2 ps)])] = some (.imm (.bl true), [.imm (.tup [.int ps.length, .tup (nat2 ps)]), .imm (.tup [.int ps.length, .tup (nat2 ps)])]) := c_alike 2 196 _ hAL
    subst hS
    generalize bits d = dP at *
    simp -implicitDefEqProofs [e12, e17, nat2_len, hl2, asgTs, asgT]
    exact hR _ ⟨_, rfl⟩
  obtain ⟨r, e, rs, rfl⟩ := key
  exact ⟨rs, e⟩
end Sw.k43
theorem PySem.Challenge.cw_signworth_k43_divided_rows_holds : PySem.Challenge.rw_signworth_k43_divided_rows.Holds := by
  exact Sw.k43.holds_of Sw.k43.law_true
