import PyProof.Rows.All
import Wide.All
import OpenK.AllK
import Wide.FinOn
import HandS.ForMost
import HandS.TupAny
import HandS.Wide
import KE.SortKeyed
import HandS.StrMore
import HandS.IsInst
import HandS.Deep
import HandS.Style
import HandS.TupMul
import KE.KRevSl
import HandS.TupLen
import HandS.WordsDict
import KE.DataAny
import KE.SortData
import KE.DataMinMax
import HandS.Text
import HandS.SortInts
import HandS.More
import KE.DataFind
import KE.DataIsa
import HandS.Comp
import HandS.Flow
import HandS.Walk
import HandS.Zip
import KE.GoesMore
import KE.GoesEnum
import HandS.NoneIn
import PyProof.ListRange
import HandS.Conv
import HandS.Sort
import PyProof.Rows.TupDisplay
import HandS.Exc
import HandS.Ends
import HandS.HeadHook2
import HandS.HeadEnd
import HandS.Head0
import HandS.Head1
import HandS.Head2
import PySem.Challenge.RW_signworth_k45_rotations_and_necklaces
set_option Elab.async false
set_option linter.all false
set_option maxRecDepth 1000000
/-! Sw, part 1: pure data, how they lie in the abstract heap, frames. -/
namespace Sw
open PySem PySem.Spec PyProof.Rows L2

/-- immutable data: None, bool, int, text, tuple, a list that nobody changes -/
inductive P where
  | non | bl (b : Bool) | int (i : Int) | str (s : List Nat) | tup (xs : List P) | lst (xs : List P)
  deriving Inhabited
mutual
def P.beq : P → P → Bool
  | .non, q => (match q with | .non => true | _ => false)
  | .bl a, q => (match q with | .bl b => a == b | _ => false)
  | .int a, q => (match q with | .int b => a == b | _ => false)
  | .str a, q => (match q with | .str b => a == b | _ => false)
  | .tup a, q => (match q with | .tup b => P.beqs a b | _ => false)
  | .lst a, q => (match q with | .lst b => P.beqs a b | _ => false)
def P.beqs : List P → List P → Bool
  | [], q => (match q with | [] => true | _ => false)
  | x :: xs, q => (match q with | y :: ys => P.beq x y && P.beqs xs ys | _ => false)
end
mutual
theorem P.beq_iff : ∀ a b : P, P.beq a b = true ↔ a = b
  | .non, b => by cases b <;> simp [P.beq]
  | .bl _, b => by cases b <;> simp [P.beq]
  | .int _, b => by cases b <;> simp [P.beq]
  | .str _, b => by cases b <;> simp [P.beq]
  | .tup xs, b => by
    cases b with
    | tup ys => simp [P.beq, P.beqs_iff xs ys]
    | _ => simp [P.beq]
  | .lst xs, b => by
    cases b with
    | lst ys => simp [P.beq, P.beqs_iff xs ys]
    | _ => simp [P.beq]
theorem P.beqs_iff : ∀ a b : List P, P.beqs a b = true ↔ a = b
  | [], b => by cases b <;> simp [P.beqs]
  | x :: xs, b => by
    cases b with
    | nil => simp [P.beqs]
    | cons y ys => simp [P.beqs, P.beq_iff x y, P.beqs_iff xs ys]
end
instance : DecidableEq P := fun a b => if h : P.beq a b = true then isTrue ((P.beq_iff a b).mp h) else isFalse fun e => h ((P.beq_iff a b).mpr e)
/-- data: immutable, or an owned list -/
inductive D where
  | imm (p : P) | lst (xs : List P) | dic (t : Bool) (kvs : List (P × P))
  deriving DecidableEq, Inhabited

/-! ### how they lie -/
def Stab (o : HO) : Prop := ¬ Mut (some o)
def FzL (K : PySem.W.Frag) (H : Hp) (a : Addr) (xs : List V) : Prop :=
  (∃ o, H a = some (.frz o (.lst xs))) ∨
    ∃ (o : Obj) (its : Array Value) (n : Nat), K.lookup a = some o ∧ o.cls = .type "list" ∧ o.dict = none ∧ o.data = .seq its n ∧ its.size ≤ sizeLine ∧ Vals xs its.toList
theorem FzL.sql {K : PySem.W.Frag} {H : Hp} {a : Addr} {xs : List V} (h : FzL K H a xs) : SqL K H a xs := by
  rcases h with ⟨o, h⟩ | h
  · exact .inl (.inr ⟨o, h⟩)
  · exact .inr h
/-- what is locked, or made for ever, stays -/
def Keeps (H H' : Hp) : Prop := ∀ a o, H a = some o → Stab o → H' a = some o
theorem Keeps.refl (H : Hp) : Keeps H H := fun _ _ h _ => h
theorem Keeps.trans {H H1 H2 : Hp} (a : Keeps H H1) (b : Keeps H1 H2) : Keeps H H2 := fun c o h s => b c o (a c o h s) s
theorem Keeps.of_same {H H' : Hp} (h : Same H H') : Keeps H H' := fun a o e _ => h a o e
theorem stab_tup {xs : List V} : Stab (.tup xs) := fun h => h
theorem stab_frz {o : Obj} {u : HO} : Stab (.frz o u) := fun h => h
theorem FzL.keep {K : PySem.W.Frag} {H H' : Hp} {a : Addr} {xs : List V} (h : FzL K H a xs) (k : Keeps H H') : FzL K H' a xs := by
  rcases h with ⟨o, h⟩ | h
  · exact .inl ⟨o, k _ _ h stab_frz⟩
  · exact .inr h
theorem sqT_keep {K : PySem.W.Frag} {H H' : Hp} {a : Addr} {xs : List V} (h : SqT K H a xs) (k : Keeps H H') : SqT K H' a xs := by
  rcases h with (h | ⟨o, h⟩) | h
  · exact .inl (.inl (k _ _ h stab_tup))
  · exact .inl (.inr ⟨o, k _ _ h stab_frz⟩)
  · exact .inr h
def sOf (s : List Nat) : Str := ⟨s.toArray⟩
theorem sOf_cps (s : List Nat) : (sOf s).cps.toList = s := by simp [sOf]
theorem sOf_len (s : List Nat) : (sOf s).length = s.length := by simp [sOf, Str.length]
theorem sOf_inj {s t : List Nat} (h : sOf s = sOf t) : s = t := by
  have := congrArg (fun z : Str => z.cps.toList) h
  simpa [sOf] using this
theorem of_cps {x : Str} {s : List Nat} (h : x.cps.toList = s) : x = sOf s := by
  cases x with
  | mk c => simp only [sOf]; congr 1; rw [← h]
def chrOk (s : List Nat) : Bool := s.all (· < 0x110000)
mutual
inductive PRep (K : PySem.W.Frag) (H : Hp) : V → P → Prop
  | non : PRep K H .non .non
  | bl (b : Bool) : PRep K H (.bl b) (.bl b)
  | int (i : Int) : PRep K H (.int i) (.int i)
  | str (s : List Nat) : chrOk s = true → PRep K H (.str (sOf s)) (.str s)
  | tup {a : Addr} {xs : List V} {ps : List P} : H a = some (.tup xs) → PReps K H xs ps → PRep K H (.ref a) (.tup ps)
  | lst {a : Addr} {xs : List V} {ps : List P} : FzL K H a xs → PReps K H xs ps → PRep K H (.ref a) (.lst ps)
inductive PReps (K : PySem.W.Frag) (H : Hp) : List V → List P → Prop
  | nil : PReps K H [] []
  | cons {v : V} {vs : List V} {p : P} {ps : List P} : PRep K H v p → PReps K H vs ps → PReps K H (v :: vs) (p :: ps)
end
section
variable {K : PySem.W.Frag} {H H' : Hp}
mutual
theorem PRep.keep (k : Keeps H H') : ∀ {p : P} {v : V}, PRep K H v p → PRep K H' v p
  | .non, _, h => by cases h; exact .non
  | .bl b, _, h => by cases h; exact .bl b
  | .int i, _, h => by cases h; exact .int i
  | .str s, _, h => by cases h with | str _ c => exact .str s c
  | .tup ps, _, h => by cases h with | tup a b => exact .tup (k _ _ a stab_tup) (PReps.keep k b)
  | .lst ps, _, h => by cases h with | lst a b => exact .lst (a.keep k) (PReps.keep k b)
theorem PReps.keep (k : Keeps H H') : ∀ {ps : List P} {vs : List V}, PReps K H vs ps → PReps K H' vs ps
  | [], _, h => by cases h; exact .nil
  | p :: ps, _, h => by cases h with | cons a b => exact .cons (PRep.keep k a) (PReps.keep k b)
end
theorem PReps.length : ∀ {vs : List V} {ps : List P}, PReps K H vs ps → vs.length = ps.length
  | _, _, .nil => rfl
  | _, _, .cons _ t => by simp [PReps.length t]
theorem PReps.get : ∀ {vs : List V} {ps : List P} {i : Nat} {p : P}, PReps K H vs ps → ps[i]? = some p → ∃ v, vs[i]? = some v ∧ PRep K H v p
  | _, _, i, p, .nil, e => by simp at e
  | _, _, 0, p, .cons r _, e => by simp at e; subst e; exact ⟨_, rfl, r⟩
  | _, _, i + 1, p, .cons _ t, e => by
    obtain ⟨v, h1, h2⟩ := PReps.get (i := i) (p := p) t (by simpa using e)
    exact ⟨v, by simpa using h1, h2⟩
theorem PReps.getV : ∀ {vs : List V} {ps : List P} {i : Nat} {v : V}, PReps K H vs ps → vs[i]? = some v → ∃ p, ps[i]? = some p ∧ PRep K H v p
  | _, _, i, p, .nil, e => by simp at e
  | _, _, 0, p, .cons r _, e => by simp at e; subst e; exact ⟨_, rfl, r⟩
  | _, _, i + 1, p, .cons _ t, e => by
    obtain ⟨v, h1, h2⟩ := PReps.getV (i := i) (v := p) t (by simpa using e)
    exact ⟨v, by simpa using h1, h2⟩
theorem PReps.append : ∀ {vs ws : List V} {ps qs : List P}, PReps K H vs ps → PReps K H ws qs → PReps K H (vs ++ ws) (ps ++ qs)
  | _, _, _, _, .nil, s => s
  | _, _, _, _, .cons r t, s => .cons r (PReps.append t s)
theorem PReps.take : ∀ {vs : List V} {ps : List P} (n : Nat), PReps K H vs ps → PReps K H (vs.take n) (ps.take n)
  | _, _, 0, _ => .nil
  | _, _, _ + 1, .nil => .nil
  | _, _, n + 1, .cons r t => .cons r (PReps.take n t)
theorem PReps.drop : ∀ {vs : List V} {ps : List P} (n : Nat), PReps K H vs ps → PReps K H (vs.drop n) (ps.drop n)
  | _, _, 0, r => r
  | _, _, _ + 1, .nil => .nil
  | _, _, n + 1, .cons _ t => PReps.drop n t
theorem PReps.set {v : V} {p : P} (r : PRep K H v p) : ∀ {vs : List V} {ps : List P} (i : Nat), PReps K H vs ps → PReps K H (vs.set i v) (ps.set i p)
  | _, _, _, .nil => .nil
  | _, _, 0, .cons _ t => .cons r t
  | _, _, i + 1, .cons q t => .cons q (PReps.set r i t)
theorem PReps.dropLast : ∀ {vs : List V} {ps : List P}, PReps K H vs ps → PReps K H vs.dropLast ps.dropLast
  | _, _, .nil => .nil
  | _, _, .cons r .nil => .nil
  | _, _, .cons r (.cons q t) => .cons r (PReps.dropLast (.cons q t))
theorem PReps.eraseIdx : ∀ {vs : List V} {ps : List P} (i : Nat), PReps K H vs ps → PReps K H (vs.eraseIdx i) (ps.eraseIdx i)
  | _, _, _, .nil => .nil
  | _, _, 0, .cons _ t => t
  | _, _, i + 1, .cons q t => .cons q (PReps.eraseIdx i t)
theorem PReps.reverse {vs : List V} {ps : List P} (h : PReps K H vs ps) : PReps K H vs.reverse ps.reverse := by
  induction h using PReps.rec (motive_1 := fun _ _ _ => True) with
  | nil => exact .nil
  | cons r t _ ih => rw [List.reverse_cons, List.reverse_cons]; exact ih.append (.cons r .nil)
  | _ => trivial
theorem PReps.rep {vs : List V} {ps : List P} (h : PReps K H vs ps) : ∀ k : Nat, PReps K H (List.replicate k vs).flatten (List.replicate k ps).flatten
  | 0 => .nil
  | k + 1 => by rw [List.replicate_succ, List.replicate_succ, List.flatten_cons, List.flatten_cons]; exact h.append (h.rep k)
theorem PReps.ints : ∀ ns : List Int, PReps K H (ns.map V.int) (ns.map P.int)
  | [] => .nil
  | n :: ns => .cons (.int n) (PReps.ints ns)
theorem PReps.of_ints : ∀ {ns : List Int} {vs : List V}, PReps K H vs (ns.map P.int) → vs = ns.map V.int
  | [], _, h => by cases h; rfl
  | n :: ns, _, h => by
    cases h with
    | cons a b => cases a; rw [List.map_cons, PReps.of_ints b]
theorem PReps.of_bls : ∀ {ns : List Bool} {vs : List V}, PReps K H vs (ns.map P.bl) → vs = ns.map V.bl
  | [], _, h => by cases h; rfl
  | n :: ns, _, h => by
    cases h with
    | cons a b => cases a; rw [List.map_cons, PReps.of_bls b]
theorem PReps.of_strs : ∀ {ns : List (List Nat)} {vs : List V}, PReps K H vs (ns.map P.str) → vs = (ns.map sOf).map V.str
  | [], _, h => by cases h; rfl
  | n :: ns, _, h => by
    cases h with
    | cons a b => cases a; rw [List.map_cons, List.map_cons, PReps.of_strs b]

/-! ### keys -/
inductive KRep : L2.Key → P → Prop
  | int (i : Int) : KRep (.inl i) (.int i)
  | str (s : List Nat) : chrOk s = true → KRep (.inr (sOf s)) (.str s)
inductive TRep : List L2.Key → P → Prop
  | mk {ks : List L2.Key} {ps : List P} : Paired KRep ks ps → TRep ks (.tup ps)
/-! ### owned data: F, the objects that are owned -/
inductive Rep (K : PySem.W.Frag) (H : Hp) : V → D → List Addr → Prop
  | imm {v : V} {p : P} : PRep K H v p → Rep K H v (.imm p) []
  | lst {a : Addr} {vs : List V} {ps : List P} : H a = some (.lst vs) → PReps K H vs ps → Rep K H (.ref a) (.lst ps) [a]
  | dicK {a : Addr} {kv : List (L2.Key × V)} {kvs : List (P × P)} : H a = some (.dK kv) → Paired (fun x y => KRep x.1 y.1 ∧ PRep K H x.2 y.2) kv kvs → Rep K H (.ref a) (.dic false kvs) [a]
  | dicT {a : Addr} {kv : List (List L2.Key × V)} {kvs : List (P × P)} : H a = some (.dT kv) → Paired (fun x y => TRep x.1 y.1 ∧ PRep K H x.2 y.2) kv kvs → Rep K H (.ref a) (.dic true kvs) [a]
inductive Reps (K : PySem.W.Frag) (H : Hp) : List V → List D → List Addr → Prop
  | nil : Reps K H [] [] []
  | cons {v : V} {vs : List V} {d : D} {ds : List D} {F G : List Addr} : Rep K H v d F → Reps K H vs ds G → Reps K H (v :: vs) (d :: ds) (F ++ G)
/-- the names' values: slots that the environment does not know may hold anything -/
inductive EnvRep (K : PySem.W.Frag) (H : Hp) : L2.St → List (Option D) → List Addr → Prop
  | nil : EnvRep K H [] [] []
  | ns {x : Option V} {σ : L2.St} {e : List (Option D)} {F : List Addr} : EnvRep K H σ e F → EnvRep K H (x :: σ) (none :: e) F
  | sm {v : V} {d : D} {σ : L2.St} {e : List (Option D)} {F G : List Addr} : Rep K H v d F → EnvRep K H σ e G → EnvRep K H (some v :: σ) (some d :: e) (F ++ G)
/-- from H, owning F, to H', owning G -/
structure Stp (H : Hp) (F : List Addr) (H' : Hp) (G : List Addr) : Prop where
  keep : ∀ a o, H a = some o → a ∉ F → H' a = some o
  own : ∀ a ∈ G, a ∈ F ∨ H a = none
def MutF (H : Hp) (F : List Addr) : Prop := ∀ a ∈ F, ∃ o, H a = some o ∧ Mut (some o)
theorem Rep.mut {v : V} {d : D} {F : List Addr} (h : Rep K H v d F) : MutF H F := by
  cases h with
  | imm _ => intro a z; cases z
  | lst e _ => intro a z; rw [List.mem_singleton] at z; subst z; exact ⟨_, e, trivial⟩
  | dicK e _ => intro a z; rw [List.mem_singleton] at z; subst z; exact ⟨_, e, trivial⟩
  | dicT e _ => intro a z; rw [List.mem_singleton] at z; subst z; exact ⟨_, e, trivial⟩
theorem MutF.append {F G : List Addr} (a : MutF H F) (b : MutF H G) : MutF H (F ++ G) := fun c z => (List.mem_append.mp z).elim (a c) (b c)
theorem Reps.mut {vs : List V} {ds : List D} {F : List Addr} (h : Reps K H vs ds F) : MutF H F := by
  induction h with
  | nil => intro a z; cases z
  | cons r _ ih => exact r.mut.append ih
theorem EnvRep.mut {σ : L2.St} {e : List (Option D)} {F : List Addr} (h : EnvRep K H σ e F) : MutF H F := by
  induction h with
  | nil => intro a z; cases z
  | ns _ ih => exact ih
  | sm r _ ih => exact r.mut.append ih
theorem Rep.mono {v : V} {d : D} {F : List Addr} (h : Rep K H v d F) (k : Keeps H H') (hf : ∀ a ∈ F, H' a = H a) : Rep K H' v d F := by
  cases h with
  | imm r => exact .imm (r.keep k)
  | lst e r => exact .lst (by rw [hf _ (List.mem_singleton.mpr rfl)]; exact e) (r.keep k)
  | dicK e r => exact .dicK (by rw [hf _ (List.mem_singleton.mpr rfl)]; exact e) (Paired.mapP r fun x y z => ⟨z.1, z.2.keep k⟩)
  | dicT e r => exact .dicT (by rw [hf _ (List.mem_singleton.mpr rfl)]; exact e) (Paired.mapP r fun x y z => ⟨z.1, z.2.keep k⟩)
theorem Reps.mono {vs : List V} {ds : List D} {F : List Addr} (h : Reps K H vs ds F) (k : Keeps H H') (hf : ∀ a ∈ F, H' a = H a) : Reps K H' vs ds F := by
  induction h with
  | nil => exact .nil
  | cons r _ ih => exact .cons (r.mono k fun a z => hf a (List.mem_append_left _ z)) (ih fun a z => hf a (List.mem_append_right _ z))
theorem EnvRep.mono {σ : L2.St} {e : List (Option D)} {F : List Addr} (h : EnvRep K H σ e F) (k : Keeps H H') (hf : ∀ a ∈ F, H' a = H a) : EnvRep K H' σ e F := by
  induction h with
  | nil => exact .nil
  | ns _ ih => exact .ns (ih hf)
  | sm r _ ih => exact .sm (r.mono k fun a z => hf a (List.mem_append_left _ z)) (ih fun a z => hf a (List.mem_append_right _ z))
theorem Stp.keeps {F G : List Addr} (s : Stp H F H' G) (m : MutF H F) : Keeps H H' := fun a o e st => s.keep a o e fun z => by
  obtain ⟨o', e', mu⟩ := m a z
  rw [e] at e'; cases e'
  exact st mu
theorem Stp.refl (H : Hp) (F : List Addr) : Stp H F H F := ⟨fun _ _ h _ => h, fun _ z => .inl z⟩
theorem Stp.trans {F G L : List Addr} {H1 H2 : Hp} (s : Stp H F H1 G) (t : Stp H1 G H2 L) : Stp H F H2 L where
  keep := fun a o e n => t.keep a o (s.keep a o e n) fun z => (s.own a z).elim n fun q => by rw [e] at q; cases q
  own := fun a z => (t.own a z).elim (s.own a) fun q => by
    cases r : H a with
    | none => exact .inr rfl
    | some o =>
      by_cases n : a ∈ F
      · exact .inl n
      · rw [s.keep a o r n] at q; cases q
theorem Stp.frame {F G : List Addr} (s : Stp H F H' G) (R : List Addr) : Stp H (F ++ R) H' (G ++ R) where
  keep := fun a o e n => s.keep a o e fun z => n (List.mem_append_left _ z)
  own := fun a z => (List.mem_append.mp z).elim (fun z => (s.own a z).elim (fun y => .inl (List.mem_append_left _ y)) .inr) fun z => .inl (List.mem_append_right _ z)
theorem Stp.frameL {F G : List Addr} (s : Stp H F H' G) (R : List Addr) : Stp H (R ++ F) H' (R ++ G) where
  keep := fun a o e n => s.keep a o e fun z => n (List.mem_append_right _ z)
  own := fun a z => (List.mem_append.mp z).elim (fun z => .inl (List.mem_append_left _ z)) fun z => (s.own a z).elim (fun y => .inl (List.mem_append_right _ y)) .inr
theorem Stp.less {F F1 G G1 : List Addr} (s : Stp H F H' G) (h : ∀ a ∈ F, a ∈ F1) (h' : ∀ a ∈ G1, a ∈ G) : Stp H F1 H' G1 where
  keep := fun a o e n => s.keep a o e fun z => n (h a z)
  own := fun a z => (s.own a (h' a z)).elim (fun y => .inl (h a y)) .inr
theorem Stp.of_same {F : List Addr} (s : Same H H') : Stp H F H' F := ⟨fun a o e _ => s a o e, fun _ z => .inl z⟩
/-- what is not among F, framed -/
theorem Stp.off {F G R : List Addr} (s : Stp H F H' G) (m : MutF H R) (d : ∀ a ∈ R, a ∉ F) : ∀ a ∈ R, H' a = H a := fun a z => by
  obtain ⟨o, e, _⟩ := m a z
  rw [e, s.keep a o e (d a z)]
/-- nothing of R is owned behind -/
theorem Stp.apart {F G R : List Addr} (s : Stp H F H' G) (m : MutF H R) (d : ∀ a ∈ R, a ∉ F) : ∀ a ∈ R, a ∉ G := fun a z y => (s.own a y).elim (d a z) fun q => by
  obtain ⟨o, e, _⟩ := m a z
  rw [e] at q; cases q
end
end Sw
/-! Sw, part 2: the core language and its evaluator. -/
namespace Sw
abbrev line : Nat := 16777216
abbrev En := List (Option D)
def getE (e : En) (i : Nat) : Option D := (e[i]?).join
inductive Opd where
  | tmp (d : D) | slot (i : Nat)
def resv (e : En) : Opd → Option D
  | .tmp d => some d
  | .slot i => getE e i
def resvs (e : En) : List Opd → Option (List D)
  | [] => some []
  | o :: os => (resv e o).bind fun d => (resvs e os).bind fun ds => some (d :: ds)

/-! ### values -/
mutual
/-- Python's == -/
def peq : P → P → Bool
  | .non, q => (match q with | .non => true | _ => false)
  | .bl a, q => (match q with | .bl b => a == b | .int j => (if a then 1 else 0) == j | _ => false)
  | .int i, q => (match q with | .bl b => i == (if b then 1 else 0) | .int j => i == j | _ => false)
  | .str a, q => (match q with | .str b => a == b | _ => false)
  | .tup a, q => (match q with | .tup b => peqs a b | _ => false)
  | .lst a, q => (match q with | .lst b => peqs a b | _ => false)
def peqs : List P → List P → Bool
  | [], q => (match q with | [] => true | _ => false)
  | x :: xs, q => (match q with | y :: ys => peq x y && peqs xs ys | _ => false)
end
mutual
def depth : P → Nat
  | .non => 0
  | .bl _ => 0
  | .int _ => 0
  | .str _ => 0
  | .tup xs => depths xs + 1
  | .lst xs => depths xs + 1
def depths : List P → Nat
  | [] => 0
  | x :: xs => max (depth x) (depths xs)
end
mutual
def toPy : P → PySem.PyData
  | .non => .none
  | .bl b => .bool b
  | .int i => .int i
  | .str s => .str (sOf s)
  | .tup xs => .tuple (toPys xs)
  | .lst xs => .list (toPys xs)
def toPys : List P → List PySem.PyData
  | [] => []
  | x :: xs => toPy x :: toPys xs
end
/-! the order of alike data -/
def ltD (p q : P) : Bool := PySem.W.dataLt (toPy p) (toPy q)
def alikes (ps : List P) : Bool := ps.all fun p => ps.all fun q => PySem.W.alike (toPy p) (toPy q)
def isNonP : P → Bool
  | .non => true
  | _ => false
def isTupP : P → Bool
  | .tup _ => true
  | _ => false
def isTupC : P → Bool
  | .tup (_ :: _) => true
  | _ => false
def sortD (ps : List P) : List P := ps.mergeSort fun a b => !ltD b a
def minD (p : P) (ps : List P) : P := ps.foldl (fun a y => if ltD y a then y else a) p
def maxD (p : P) (ps : List P) : P := ps.foldl (fun a y => if ltD a y then y else a) p
/-- what is read: the owned list as data -/
def rd : D → P
  | .imm p => p
  | .lst ps => .lst ps
  | .dic _ _ => .non
def isDic : D → Bool
  | .dic _ _ => true
  | _ => false
/-! keys of dicts -/
def keyK : P → Bool
  | .int _ => true
  | .str _ => true
  | _ => false
def keyT : P → Bool
  | .tup ps => ps.all keyK
  | _ => false
def keyOk (t : Bool) (p : P) : Bool := if t then keyT p else keyK p
def getKV (kvs : List (P × P)) (k : P) : Option P := (kvs.find? fun q => decide (q.1 = k)).map (·.2)
def putKV (kvs : List (P × P)) (k v : P) : List (P × P) := if kvs.any fun q => decide (q.1 = k) then kvs.map (fun q => if q.1 = k then (q.1, v) else q) else kvs ++ [(k, v)]
def elems : D → Option (List P)
  | .imm (.tup ps) => some ps
  | .imm (.lst ps) => some ps
  | .imm (.str s) => some (s.map fun c => .str [c])
  | .lst ps => some ps
  | _ => none
/-- lists alone -/
def listOf : D → Option (List P)
  | .imm (.lst ps) => some ps
  | .lst ps => some ps
  | _ => none
def seqOf : D → Option (List P)
  | .imm (.tup ps) => some ps
  | d => listOf d
def truth : D → Option Bool
  | .imm .non => some false
  | .imm (.bl b) => some b
  | .imm (.int i) => some (i != 0)
  | .imm (.str s) => if s.length ≤ line then some (!s.isEmpty) else none
  | .imm (.tup ps) => some (!ps.isEmpty)
  | .imm (.lst ps) => some (!ps.isEmpty)
  | .lst ps => some (!ps.isEmpty)
  | .dic t kvs => if t then none else some (!kvs.isEmpty)
def bI (b : Bool) : Int := if b then 1 else 0
/-- < of two values of one kind -/
def plt : P → P → Option Bool
  | .int i, .int j => some (decide (i < j))
  | .str a, .str b => some (decide (a < b))
  | _, _ => none
inductive Ty where
  | int | bool | str | tuple | list
  deriving DecidableEq
def isTy (p : P) : Ty → Bool
  | .int => (match p with | .int _ => true | .bl _ => true | _ => false)
  | .bool => (match p with | .bl _ => true | _ => false)
  | .str => (match p with | .str _ => true | _ => false)
  | .tuple => (match p with | .tup _ => true | _ => false)
  | .list => (match p with | .lst _ => true | _ => false)
/-- the place of an index -/
def ixP (n : Nat) (i : Int) : Option Nat := if 0 ≤ i then (if i < n then some i.toNat else none) else if -(n : Int) ≤ i then some (i + n).toNat else none
def atP {α : Type} (xs : List α) (i : Int) : Option α := (ixP xs.length i).bind fun j => xs[j]?
/-- a slice's bound -/
def sIxP (n d : Nat) : Option Int → Nat
  | none => d
  | some i => if i < 0 then (i + n).toNat else min i.toNat n
def cutP {α : Type} (xs : List α) (lo hi : Option Int) : List α := (xs.drop (sIxP xs.length 0 lo)).take (sIxP xs.length xs.length hi - sIxP xs.length 0 lo)
/-- where y first stands in x, from a place on -/
def findAt (y : List Nat) : List Nat → Nat → Option Nat
  | [], n => if y.isEmpty then some n else none
  | x :: xs, n => if y.isPrefixOf (x :: xs) then some n else findAt y xs (n + 1)

inductive Op where
  | get | get2 | find | find2 | count | starts | starts2 | ends | isup | islo
  | add | sub | mul | fdiv | mod | neg | pow | xor
  | eq | ne | lt | le | gt | ge | isN | notN | isin | notin | isB | notB
  | idx | rev
  | len | list | tuple | isi (ts : List Ty) | min2 | max2 | int | abs | sum | all | any
  | join | index
  | sorted | minL | maxL | swapcase | lower | upper | repr
  deriving DecidableEq
def mulOk (a b : Int) : Bool := decide (-(2 ^ 64) < a ∧ a < 2 ^ 64) || decide (-(2 ^ 64) < b ∧ b < 2 ^ 64)
def allInts : List P → Option (List Int)
  | [] => some []
  | .int i :: r => (allInts r).map (i :: ·)
  | _ => none
def allBls : List P → Option (List Bool)
  | [] => some []
  | .bl b :: r => (allBls r).map (b :: ·)
  | _ => none
def allStrs : List P → Option (List (List Nat))
  | [] => some []
  | .str b :: r => (allStrs r).map (b :: ·)
  | _ => none
def joinL (sep : List Nat) : List (List Nat) → List Nat
  | [] => []
  | [x] => x
  | x :: y :: r => x ++ sep ++ joinL sep (y :: r)
def ib (b : Bool) : Option D := some (.imm (.bl b))
def ii (i : Int) : Option D := some (.imm (.int i))
def cmpEq (a b : D) : Option Bool := if isDic a = false ∧ isDic b = false ∧ min (depth (rd a)) (depth (rd b)) ≤ 60 then some (peq (rd a) (rd b)) else none
def opIn (x : D) (y : D) : Option Bool :=
  match x, y with
  | .imm (.str a), .imm (.str b) => some (findAt a b 0).isSome
  | .imm p, .imm (.tup ps) => if min (depths ps) (depth p) ≤ 50 then some (ps.any fun z => peq z p) else none
  | .imm p, .imm (.lst ps) => if min (depths ps) (depth p) ≤ 50 then some (ps.any fun z => peq z p) else none
  | .imm p, .lst ps => if min (depths ps) (depth p) ≤ 50 then some (ps.any fun z => peq z p) else none
  | .imm p, .dic t kvs => if keyOk t p then some (getKV kvs p).isSome else none
  | _, _ => none
def opAdd (x y : D) : Option D :=
  match x, y with
  | .imm (.int a), .imm (.int b) => ii (a + b)
  | .imm (.str a), .imm (.str b) => if a.length + b.length ≤ line then some (.imm (.str (a ++ b))) else none
  | .imm (.tup a), .imm (.tup b) => if a.length + b.length ≤ line then some (.imm (.tup (a ++ b))) else none
  | .lst a, .lst b => if a.length + b.length ≤ line then some (.lst (a ++ b)) else none
  | _, _ => none
def rept {α : Type} (xs : List α) (k : Int) : List α := (List.replicate k.toNat xs).flatten
def opMul (x y : D) : Option D :=
  match x, y with
  | .imm (.int a), .imm (.int b) => if mulOk a b then ii (a * b) else none
  | .imm (.str a), .imm (.int k) => if -(2 ^ 62) ≤ k ∧ k < 2 ^ 62 ∧ a.length * k.toNat ≤ line then some (.imm (.str (rept a k))) else none
  | .lst a, .imm (.int k) => if -(2 ^ 62) ≤ k ∧ k < 2 ^ 62 ∧ a.length * k.toNat ≤ line then some (.lst (rept a k)) else none
  | .imm (.tup a), .imm (.int k) => if -(2 ^ 62) ≤ k ∧ k < 2 ^ 62 ∧ a.length * k.toNat ≤ line then some (.imm (.tup (rept a k))) else none
  | _, _ => none
def opIdx (x y : D) : Option D :=
  match x, y with
  | .imm (.str s), .imm (.int i) => if s.length ≤ line then (atP s i).bind fun c => some (.imm (.str [c])) else none
  | .imm (.tup ps), .imm (.int i) => (atP ps i).bind fun p => some (.imm p)
  | .imm (.lst ps), .imm (.int i) => (atP ps i).bind fun p => some (.imm p)
  | .lst ps, .imm (.int i) => (atP ps i).bind fun p => some (.imm p)
  | .dic t kvs, .imm p => if keyOk t p then (getKV kvs p).bind fun v => some (.imm v) else none
  | _, _ => none
def int2 (f : Int → Int → Option D) (x y : D) : Option D :=
  match x, y with
  | .imm (.int a), .imm (.int b) => f a b
  | _, _ => none
def int1 (f : Int → Option D) (x : D) : Option D :=
  match x with
  | .imm (.int a) => f a
  | _ => none
def opCmpI (f : Int → Int → Bool) (g : List Nat → List Nat → Bool) (x y : D) : Option D :=
  match x, y with
  | .imm (.int i), .imm (.int j) => ib (f i j)
  | .imm (.str a), .imm (.str b) => ib (g a b)
  | _, _ => none
def opInt (x : D) : Option D :=
  match x with
  | .imm (.int i) => ii i
  | .imm (.bl b) => ii (bI b)
  | _ => none
def opLen : D → Option D
  | .imm (.str s) => if s.length ≤ line then ii s.length else none
  | .imm (.tup ps) => ii ps.length
  | .imm (.lst ps) => ii ps.length
  | .lst ps => ii ps.length
  | .dic _ kvs => ii kvs.length
  | _ => none
def opRev : D → Option D
  | .imm (.str s) => if s.length ≤ line then some (.imm (.str s.reverse)) else none
  | .imm (.tup ps) => some (.imm (.tup ps.reverse))
  | .imm (.lst ps) => some (.lst ps.reverse)
  | .lst ps => some (.lst ps.reverse)
  | _ => none
def idxOf (x : P) : List P → Option Nat
  | [] => none
  | p :: ps => if peq p x then some 0 else (idxOf x ps).map (· + 1)
def opList (x : D) : Option D := (elems x).bind fun ps => if ps.length ≤ line then some (.lst ps) else none
def opTuple (x : D) : Option D := (elems x).bind fun ps => if ps.length ≤ line then some (.imm (.tup ps)) else none
def opSum (x : D) : Option D := (listOf x).bind fun ps => (allInts ps).bind fun ns => ii ns.sum
def truthP : P → Bool
  | .non => false
  | .bl b => b
  | .int i => i != 0
  | .str s => !s.isEmpty
  | .tup ps => !ps.isEmpty
  | .lst ps => !ps.isEmpty
def fitP : P → Bool
  | .str s => decide (s.length ≤ line)
  | .tup ps => decide (ps.length ≤ line)
  | .lst ps => decide (ps.length ≤ line)
  | _ => true
def opAll (x : D) : Option D := (seqOf x).bind fun ps => if ps.all fitP then ib (ps.all truthP) else none
def opAny (x : D) : Option D := (seqOf x).bind fun ps => if ps.all fitP then ib (ps.any truthP) else none
def opJoin (x y : D) : Option D :=
  match x with
  | .imm (.str sep) => (match y with
    | .imm (.str _) => none
    | _ => (elems y).bind fun ps => (allStrs ps).bind fun ns => if (ns.map List.length).sum + ns.length * sep.length ≤ line then some (.imm (.str (joinL sep ns))) else none)
  | _ => none
def opIndex (x y : D) : Option D :=
  match x, y with
  | .lst ps, .imm p => if min (depths ps) (depth p) ≤ 50 then (idxOf p ps).bind fun k => ii k else none
  | .imm (.lst ps), .imm p => if min (depths ps) (depth p) ≤ 50 then (idxOf p ps).bind fun k => ii k else none
  | _, _ => none
def sortOk (ps : List P) : Bool := alikes ps && (ps.all isTupC || ps.all fun p => !isNonP p && !isTupP p) && decide (depths ps ≤ 50) && decide (ps.length ≤ line)
def minOk (ps : List P) : Bool := alikes ps && ps.all (fun p => !isNonP p) && decide (depths ps ≤ 50)
/-- what sorted goes through -/
def colOf : D → Option (List P)
  | .imm (.str s) => some (s.map fun c => .str [c])
  | .dic t kvs => if t then none else some (kvs.map (·.1))
  | d => seqOf d
def opSorted (x : D) : Option D := (colOf x).bind fun ps => if sortOk ps then some (.lst (sortD ps)) else none
def opMinL (x : D) : Option D := (seqOf x).bind fun ps => match ps with
  | [] => none
  | p :: r => if minOk (p :: r) then some (.imm (minD p r)) else none
def opMaxL (x : D) : Option D := (seqOf x).bind fun ps => match ps with
  | [] => none
  | p :: r => if minOk (p :: r) then some (.imm (maxD p r)) else none
/-! letters up to 127 -/
def ascii (s : List Nat) : Bool := s.all (fun c => decide (c < 128)) && decide (s.length ≤ 5000000)
def swC (c : Nat) : Nat := if 65 ≤ c ∧ c ≤ 90 then c + 32 else if 97 ≤ c ∧ c ≤ 122 then c - 32 else c
def loC (c : Nat) : Nat := if 65 ≤ c ∧ c ≤ 90 then c + 32 else c
def upC (c : Nat) : Nat := if 97 ≤ c ∧ c ≤ 122 then c - 32 else c
def opTx (f : Nat → Nat) (x : D) : Option D := match x with
  | .imm (.str s) => if ascii s then some (.imm (.str (s.map f))) else none
  | _ => none
/-- repr of a truth value, of None -/
def opRepr (x : D) : Option D := match x with
  | .imm (.bl b) => some (.imm (.str (if b then [84, 114, 117, 101] else [70, 97, 108, 115, 101])))
  | .imm .non => some (.imm (.str [78, 111, 110, 101]))
  | _ => none
def isB2 (n : Bool) (x y : D) : Option D := match x, y with
  | .imm (.bl a), .imm (.bl b) => ib (if n then !decide (a = b) else decide (a = b))
  | _, _ => none
def opT0 (f : PySem.Str → Bool) : List D → Option D
  | [.imm (.str a)] => ib (f (sOf a))
  | _ => none
def opTI1 (f : PySem.Str → PySem.Str → Int) : List D → Option D
  | [.imm (.str a), .imm (.str b)] => ii (f (sOf a) (sOf b))
  | _ => none
def opTB1 (f : PySem.Str → PySem.Str → Bool) : List D → Option D
  | [.imm (.str a), .imm (.str b)] => ib (f (sOf a) (sOf b))
  | _ => none
def opTI2 (f : PySem.Str → PySem.Str → Int → Int) : List D → Option D
  | [.imm (.str a), .imm (.str b), .imm (.int i)] => ii (f (sOf a) (sOf b) i)
  | _ => none
def opTB2 (f : PySem.Str → PySem.Str → Int → Bool) : List D → Option D
  | [.imm (.str a), .imm (.str b), .imm (.int i)] => ib (f (sOf a) (sOf b) i)
  | _ => none
def opGet : List D → Option D
  | [.dic t kvs, .imm p] => if keyOk t p then some (.imm ((getKV kvs p).getD .non)) else none
  | _ => none
def opGet2 : List D → Option D
  | [.dic t kvs, .imm p, .imm q] => if keyOk t p then some (.imm ((getKV kvs p).getD q)) else none
  | _ => none
def opSem : Op → List D → Option D
  | .add, [x, y] => opAdd x y
  | .sub, [x, y] => int2 (fun a b => ii (a - b)) x y
  | .mul, [x, y] => opMul x y
  | .fdiv, [x, y] => int2 (fun a b => if b ≠ 0 ∧ b.natAbs < 1073741824 then ii (a.fdiv b) else none) x y
  | .mod, [x, y] => int2 (fun a b => if b ≠ 0 then ii (a.fmod b) else none) x y
  | .xor, [x, y] => int2 (fun a b => ii (PySem.Builtin.bitXor a b)) x y
  | .isB, [x, y] => isB2 false x y
  | .notB, [x, y] => isB2 true x y
  | .pow, [x, y] => int2 (fun a b => if 0 ≤ b ∧ b ≤ 1000000 ∧ a.natAbs < 2 ^ 64 then ii (a ^ b.toNat) else none) x y
  | .neg, [x] => int1 (fun a => ii (-a)) x
  | .eq, [x, y] => (cmpEq x y).bind ib
  | .ne, [x, y] => (cmpEq x y).bind fun b => ib (!b)
  | .lt, [x, y] => opCmpI (fun i j => decide (i < j)) (fun a b => decide (a < b)) x y
  | .le, [x, y] => opCmpI (fun i j => decide (i ≤ j)) (fun a b => !decide (b < a)) x y
  | .gt, [x, y] => opCmpI (fun i j => decide (j < i)) (fun a b => decide (b < a)) x y
  | .ge, [x, y] => opCmpI (fun i j => decide (j ≤ i)) (fun a b => !decide (a < b)) x y
  | .isN, [x] => ib (decide (x = .imm .non))
  | .notN, [x] => ib (!decide (x = .imm .non))
  | .isin, [x, y] => (opIn x y).bind ib
  | .notin, [x, y] => (opIn x y).bind fun b => ib (!b)
  | .idx, [x, y] => opIdx x y
  | .rev, [x] => opRev x
  | .len, [x] => opLen x
  | .list, [x] => opList x
  | .tuple, [x] => opTuple x
  | .isi ts, [x] => if isDic x then none else ib (ts.any (isTy (rd x)))
  | .min2, [x, y] => int2 (fun i j => ii (if j < i then j else i)) x y
  | .max2, [x, y] => int2 (fun i j => ii (if j > i then j else i)) x y
  | .int, [x] => opInt x
  | .abs, [x] => int1 (fun i => ii (if i < 0 then -i else i)) x
  | .sum, [x] => opSum x
  | .all, [x] => opAll x
  | .any, [x] => opAny x
  | .join, [x, y] => opJoin x y
  | .index, [x, y] => opIndex x y
  | .sorted, [x] => opSorted x
  | .minL, [x] => opMinL x
  | .maxL, [x] => opMaxL x
  | .swapcase, [x] => opTx swC x
  | .lower, [x] => opTx loC x
  | .upper, [x] => opTx upC x
  | .repr, [x] => opRepr x
  | .get, ds => opGet ds
  | .get2, ds => opGet2 ds
  | .find, ds => opTI1 PySem.Txt.find ds
  | .find2, ds => opTI2 PySem.Txt.find3 ds
  | .count, ds => opTI1 PySem.Txt.count ds
  | .starts, ds => opTB1 PySem.Txt.startswith ds
  | .starts2, ds => opTB2 PySem.Txt.startswith3 ds
  | .ends, ds => opTB1 PySem.Txt.endswith ds
  | .isup, ds => opT0 PySem.Txt.isupper ds
  | .islo, ds => opT0 PySem.Txt.islower ds
  | _, _ => none

/-! ### iterables -/
inductive IK where
  | seq | rng1 | rng2 | rng3 | enum | zip
  deriving DecidableEq
def small62 (i : Int) : Bool := decide (-(2 ^ 62) ≤ i ∧ i < 2 ^ 62)
def zipSem (x y : D) : Option (List P) := (elems x).bind fun ps => (elems y).bind fun qs => some ((ps.zip qs).map fun q => .tup [q.1, q.2])
def items : IK → List D → Option (List P)
  | .seq, [x] => elems x
  | .rng1, [.imm (.int j)] => if small62 j then some ((List.range j.toNat).map fun k : Nat => P.int (k : Int)) else none
  | .rng2, [.imm (.int i), .imm (.int j)] => if small62 i && small62 j then some ((List.range (j - i).toNat).map fun k : Nat => P.int (i + (k : Int))) else none
  | .rng3, [.imm (.int i), .imm (.int j), .imm (.int c)] => if small62 i && small62 j && decide (c = -1) then some ((List.range (i - j).toNat).map fun k : Nat => P.int (i - (k : Int))) else none
  | .enum, [x] => (elems x).map fun ps => ps.zipIdx.map fun q => .tup [.int (q.2 : Int), q.1]
  | .zip, [x, y] => zipSem x y
  | _, _ => none

/-! ### the core -/
inductive Pat where
  | nm (i : Nat) | tp (ps : List Pat)
inductive MOp where
  | append | extend | pop | popAt | remove
  deriving DecidableEq
def mutSem : MOp → List P → List D → Option (List P × P)
  | .append, xs, [.imm p] => if xs.length < line then some (xs ++ [p], .non) else none
  | .extend, xs, [.lst ps] => if xs.length + ps.length ≤ line then some (xs ++ ps, .non) else none
  | .pop, xs, [] => (xs[xs.length - 1]?).map fun p => (xs.dropLast, p)
  | .popAt, xs, [.imm (.int i)] => if xs.length ≤ line then (ixP xs.length i).bind fun j => (xs[j]?).map fun p => (xs.eraseIdx j, p) else none
  | .remove, xs, [.imm p] => if min (depths xs) (depth p) ≤ 50 then (idxOf p xs).map fun j => (xs.eraseIdx j, .non) else none
  | _, _, _ => none
inductive E where
  | nm (i : Nat)
  | cst (p : P)
  | glo (x : Nat)
  | mv (i : Nat)
  | tup (es : List E)
  | lst (es : List E)
  | op (o : Op) (es : List E)
  | mth (o : Op) (a : E) (es : List E)
  | chain (o1 o2 : Op) (a b c : E)
  | chain3 (o1 o2 o3 : Op) (a b c d : E)
  | dnew (t : Bool)
  | dlit (t : Bool) (es : List E)
  | lsi (tu : Bool) (k : IK) (as : List E)
  | and (es : List E)
  | or (es : List E)
  | not (e : E)
  | ife (t a b : E)
  | slc (a : E) (lo hi : Option E)
  | mut (m : MOp) (i : Nat) (es : List E)
  | call (f : Nat) (es : List E)
  | cmp (own : List Nat) (t : Pat) (k : IK) (as : List E) (tests : List E) (elt : E)
  | cmp2 (own own2 : List Nat) (t : Pat) (k : IK) (as : List E) (tests : List E) (t2 : Pat) (k2 : IK) (as2 : List E) (tests2 : List E) (elt : E)
  | frz (e : E)
inductive T where
  | asg (t : Pat) (e : E)
  | par (is : List Nat) (es : List E)
  | aug (i : Nat) (o : Op) (e : E)
  | sto (i : Nat) (ix e : E)
  | augs (i : Nat) (ix : E) (o : Op) (e : E)
  | sto2 (i : Nat) (k1 : E) (j : Nat) (k2 : E) (a b : E)
  | ex (e : E)
  | ret (e : E)
  | ret0
  | ifs (t : E) (a b : List T)
  | fors (t : Pat) (k : IK) (as : List E) (body : List T)
  | whl (n : Nat) (t : E) (body : List T)
  | brk | cont | pass | never
inductive Fl where
  | nx | rt (d : D) | bk | ct
abbrev CallS := Nat → List D → Option (D × List D)
abbrev M (α : Type) := En → Option (α × En)
def isImm : D → Bool
  | .imm _ => true
  | _ => false
def toImm : D → Option P
  | .imm p => some p
  | _ => none
def toImms : List D → Option (List P)
  | [] => some []
  | d :: ds => (toImm d).bind fun p => (toImms ds).bind fun ps => some (p :: ps)
mutual
/-- a value into a pattern -/
def bindP : Pat → P → En → Option En
  | .nm i, p, e => some (e.set i (some (.imm p)))
  | .tp ts, p, e => (match p with
    | .tup ps => bindPs ts ps e
    | .lst ps => bindPs ts ps e
    | _ => none)
def bindPs : List Pat → List P → En → Option En
  | [], ps, e => (match ps with | [] => some e | _ => none)
  | t :: ts, ps, e => (match ps with
    | p :: ps => (bindP t p e).bind fun e' => bindPs ts ps e'
    | _ => none)
end
/-- a display's keys and values, into a dict -/
def mkD (t : Bool) : List P → List (P × P) → Option (List (P × P))
  | [], acc => some acc
  | k :: r, acc => (match r with
    | [] => none
    | v :: r => if keyOk t k then mkD t r (putKV acc k v) else none)
/-- the names that are walked stand as they stood -/
def lockOk (os : List Opd) (e e' : En) : Bool := os.all fun o => match o with
  | .tmp _ => true
  | .slot i => decide (getE e' i = getE e i)
def wipeE (e : En) : List Nat → En
  | [] => e
  | i :: is => (wipeE e is).set i none
def keepImm : Option D → Option D
  | some (.imm p) => some (.imm p)
  | _ => none
def putBack (e e0 : En) : List Nat → En
  | [] => e
  | i :: is => putBack (e.set i (keepImm (getE e0 i))) e0 is
/-- what a loop over items makes: the list so far, the names -/
def compL (step : P → List P → En → Option (List P × En)) : List P → List P → En → Option (List P × En)
  | [], acc, e => some (acc, e)
  | p :: ps, acc, e => (step p acc e).bind fun r => compL step ps r.1 r.2
def freeOf (os : List Opd) (own : List Nat) : Bool := os.all fun o => match o with
  | .tmp _ => true
  | .slot i => !own.contains i
def immO : Opd → Option P
  | .tmp (.imm p) => some p
  | _ => none
def immOs : List Opd → Option (List P)
  | [] => some []
  | o :: os => (immO o).bind fun p => (immOs os).bind fun ps => some (p :: ps)
def noSlot (os : List Opd) (i : Nat) : Bool := os.all fun o => match o with
  | .tmp _ => true
  | .slot j => j != i
/-- what the called one has changed goes back to the names -/
def back : List Opd → List D → List D → En → Option En
  | [], ds, rs, e => (match ds, rs with
    | [], [] => some e
    | _, _ => none)
  | o :: os, ds, rs, e => (match ds, rs with
    | d :: ds, r :: rs => (match o with
      | .tmp _ => back os ds rs e
      | .slot i => (match d with
        | .imm _ => back os ds rs e
        | .lst _ => if noSlot os i then (back os ds rs (e.set i none)).bind fun e' => some (e'.set i (some r)) else none
        | .dic _ _ => if noSlot os i then (back os ds rs (e.set i none)).bind fun e' => some (e'.set i (some r)) else none))
    | _, _ => none)
/-- the receiver of a method is of its type -/
def rcvOk (o : Op) (d : D) : Bool := match o, d with
  | .join, .imm (.str _) => true
  | .index, .lst _ => true
  | .index, .imm (.lst _) => true
  | .swapcase, .imm (.str _) => true
  | .lower, .imm (.str _) => true
  | .upper, .imm (.str _) => true
  | .find, .imm (.str _) => true
  | .find2, .imm (.str _) => true
  | .count, .imm (.str _) => true
  | .starts, .imm (.str _) => true
  | .starts2, .imm (.str _) => true
  | .ends, .imm (.str _) => true
  | .isup, .imm (.str _) => true
  | .islo, .imm (.str _) => true
  | .get, .dic _ _ => true
  | .get2, .dic _ _ => true
  | _, _ => false
def slcSem (d : D) (l h : Option Int) : Option D := match d with
  | .imm (.str s) => if s.length ≤ line then some (.imm (.str (cutP s l h))) else none
  | .imm (.tup ps) => some (.imm (.tup (cutP ps l h)))
  | .imm (.lst ps) => some (.lst (cutP ps l h))
  | .lst ps => some (.lst (cutP ps l h))
  | _ => none
def frzSem (x : Opd) (e : En) : Option (P × En) := match x with
  | .tmp (.imm p) => some (p, e)
  | .tmp (.lst ps) => some (.lst ps, e)
  | .slot i => (match getE e i with
    | some (.imm p) => some (p, e)
    | some (.lst ps) => some (.lst ps, e.set i (some (.imm (.lst ps))))
    | _ => none)
  | _ => none
def nmSem (i : Nat) (e : En) : Option Opd := match getE e i with
  | some (.imm p) => some (.tmp (.imm p))
  | some (.lst _) => some (.slot i)
  | some (.dic _ _) => some (.slot i)
  | none => none
/-- a name's value, the name given up -/
def mvSem (i : Nat) (e : En) : Option (Opd × En) := match getE e i with
  | some (.imm p) => some (.tmp (.imm p), e)
  | some (.lst ps) => some (.tmp (.lst ps), e.set i none)
  | some (.dic t kvs) => some (.tmp (.dic t kvs), e.set i none)
  | none => none
def mutDo (m : MOp) (i : Nat) (os : List Opd) (e : En) : Option (P × En) := (resvs e os).bind fun ds => match getE e i with
  | some (.lst xs) => if noSlot os i then (mutSem m xs ds).bind fun r => some (r.2, e.set i (some (.lst r.1))) else none
  | _ => none
def intO : Opd → Option Int
  | .tmp (.imm (.int i)) => some i
  | _ => none
mutual
def evo (Φ : CallS) (G : List P) : E → M Opd
  | .nm i, e => (nmSem i e).bind fun o => some (o, e)
  | .cst p, e => some (.tmp (.imm p), e)
  | .glo x, e => (G[x]?).bind fun p => some (.tmp (.imm p), e)
  | .mv i, e => mvSem i e
  | .tup es, e => (evos Φ G es e).bind fun r => (immOs r.1).bind fun ps => if ps.length ≤ line then some (.tmp (.imm (.tup ps)), r.2) else none
  | .lst es, e => (evos Φ G es e).bind fun r => (immOs r.1).bind fun ps => if ps.length ≤ line then some (.tmp (.lst ps), r.2) else none
  | .op o es, e => (evos Φ G es e).bind fun r => (resvs r.2 r.1).bind fun ds => (opSem o ds).bind fun d => some (.tmp d, r.2)
  | .mth o a es, e => (evo Φ G a e).bind fun x => (resv x.2 x.1).bind fun d0 => if rcvOk o d0 then (evos Φ G es x.2).bind fun r => (resvs r.2 (x.1 :: r.1)).bind fun ds => (opSem o ds).bind fun d => some (.tmp d, r.2) else none
  | .chain o1 o2 a b c, e => (evo Φ G a e).bind fun x => (evo Φ G b x.2).bind fun y => (resvs y.2 [x.1, y.1]).bind fun ds => (opSem o1 ds).bind fun r =>
      (match r with
      | .imm (.bl true) => (evo Φ G c y.2).bind fun z => (resvs z.2 [y.1, z.1]).bind fun ds => (opSem o2 ds).bind fun d => some (.tmp d, z.2)
      | .imm (.bl false) => some (.tmp (.imm (.bl false)), y.2)
      | _ => none)
  | .chain3 o1 o2 o3 a b c d, e => (evo Φ G a e).bind fun x => (evo Φ G b x.2).bind fun y => (resvs y.2 [x.1, y.1]).bind fun ds => (opSem o1 ds).bind fun r =>
      (match r with
      | .imm (.bl true) => (evo Φ G c y.2).bind fun z => (resvs z.2 [y.1, z.1]).bind fun ds => (opSem o2 ds).bind fun r =>
        (match r with
        | .imm (.bl true) => (evo Φ G d z.2).bind fun w => (resvs w.2 [z.1, w.1]).bind fun ds => (opSem o3 ds).bind fun r => some (.tmp r, w.2)
        | .imm (.bl false) => some (.tmp (.imm (.bl false)), z.2)
        | _ => none)
      | .imm (.bl false) => some (.tmp (.imm (.bl false)), y.2)
      | _ => none)
  | .dnew t, e => some (.tmp (.dic t []), e)
  | .dlit t es, e => (evos Φ G es e).bind fun r => (immOs r.1).bind fun ps => (mkD t ps []).bind fun kvs => some (.tmp (.dic t kvs), r.2)
  | .lsi tu k as, e => (evos Φ G as e).bind fun r => (resvs r.2 r.1).bind fun ds => (items k ds).bind fun ps => if ps.length ≤ line then some (.tmp (if tu then .imm (.tup ps) else .lst ps), r.2) else none
  | .and es, e => evand Φ G es e
  | .or es, e => evor Φ G es e
  | .not a, e => (evo Φ G a e).bind fun x => (resv x.2 x.1).bind fun d => (truth d).bind fun b => some (.tmp (.imm (.bl (!b))), x.2)
  | .ife t a b, e => (evo Φ G t e).bind fun x => (resv x.2 x.1).bind fun d => (truth d).bind fun k => if k then evo Φ G a x.2 else evo Φ G b x.2
  | .slc a lo hi, e => (evo Φ G a e).bind fun x => (evopt Φ G lo x.2).bind fun l => (evopt Φ G hi l.2).bind fun h => (resv h.2 x.1).bind fun d => (slcSem d l.1 h.1).bind fun r => some (.tmp r, h.2)
  | .mut m i es, e => (getE e i).bind fun d0 => (listOf d0).bind fun _ => (evos Φ G es e).bind fun r => (mutDo m i r.1 r.2).bind fun q => some (.tmp (.imm q.1), q.2)
  | .call f es, e => (evos Φ G es e).bind fun r => (resvs r.2 r.1).bind fun ds => (Φ f ds).bind fun q => (back r.1 ds q.2 r.2).bind fun e2 => some (.tmp q.1, e2)
  | .cmp own t k as tests elt, e => (evos Φ G as e).bind fun r => (resvs r.2 r.1).bind fun ds => (items k ds).bind fun ps =>
      if freeOf r.1 own then
        (compL (fun p acc e2 => (bindP t p e2).bind fun e3 => (evtests Φ G tests e3).bind fun b =>
          if b.1 then (evo Φ G elt b.2).bind fun x => (immO x.1).bind fun q => if lockOk r.1 r.2 x.2 ∧ acc.length < line then some (acc ++ [q], wipeE x.2 own) else none
          else if lockOk r.1 r.2 b.2 then some (acc, wipeE b.2 own) else none) ps [] (wipeE r.2 own)).bind fun z => some (.tmp (.lst z.1), putBack z.2 r.2 own)
      else none
  | .cmp2 own own2 t k as tests t2 k2 as2 tests2 elt, e => (evos Φ G as e).bind fun r => (resvs r.2 r.1).bind fun ds => (items k ds).bind fun ps =>
      if freeOf r.1 own then
        (compL (fun p acc e2 => (bindP t p e2).bind fun e3 => (evtests Φ G tests e3).bind fun b =>
          if b.1 then (evos Φ G as2 b.2).bind fun r2 => (resvs r2.2 r2.1).bind fun ds2 => (items k2 ds2).bind fun ps2 =>
            if freeOf r2.1 own ∧ lockOk r.1 r.2 r2.2 then
              (compL (fun p2 acc2 e6 => (bindP t2 p2 e6).bind fun e7 => (evtests Φ G tests2 e7).bind fun b2 =>
                if b2.1 then (evo Φ G elt b2.2).bind fun x => (immO x.1).bind fun q => if lockOk r2.1 r2.2 x.2 ∧ lockOk r.1 r.2 x.2 ∧ acc2.length < line then some (acc2 ++ [q], wipeE x.2 own2) else none
                else if lockOk r2.1 r2.2 b2.2 ∧ lockOk r.1 r.2 b2.2 then some (acc2, wipeE b2.2 own2) else none) ps2 acc (wipeE r2.2 own2)).bind fun z => some (z.1, wipeE z.2 own)
            else none
          else if lockOk r.1 r.2 b.2 then some (acc, wipeE b.2 own) else none) ps [] (wipeE r.2 own)).bind fun z => some (.tmp (.lst z.1), putBack z.2 r.2 own)
      else none
  | .frz a, e => (evo Φ G a e).bind fun x => (frzSem x.1 x.2).bind fun q => some (.tmp (.imm q.1), q.2)
def evos (Φ : CallS) (G : List P) : List E → M (List Opd)
  | [], e => some ([], e)
  | a :: as, e => (evo Φ G a e).bind fun x => (evos Φ G as x.2).bind fun xs => some (x.1 :: xs.1, xs.2)
def evopt (Φ : CallS) (G : List P) : Option E → M (Option Int)
  | none, e => some (none, e)
  | some a, e => (evo Φ G a e).bind fun x => (intO x.1).bind fun i => some (some i, x.2)
def evand (Φ : CallS) (G : List P) : List E → M Opd
  | [], _ => none
  | a :: as, e => (match as with
    | [] => evo Φ G a e
    | _ :: _ => (evo Φ G a e).bind fun x => (resv x.2 x.1).bind fun d => (truth d).bind fun b => if b then evand Φ G as x.2 else some x)
def evor (Φ : CallS) (G : List P) : List E → M Opd
  | [], _ => none
  | a :: as, e => (match as with
    | [] => evo Φ G a e
    | _ :: _ => (evo Φ G a e).bind fun x => (resv x.2 x.1).bind fun d => (truth d).bind fun b => if b then some x else evor Φ G as x.2)
def evtests (Φ : CallS) (G : List P) : List E → M Bool
  | [], e => some (true, e)
  | a :: as, e => (match as with
    | [] => (evo Φ G a e).bind fun x => (resv x.2 x.1).bind fun d => (truth d).bind fun b => some (b, x.2)
    | _ :: _ => none)
end
/-! ### statements -/
def whlL (step : En → Option (Bool × Fl × En)) : Nat → En → Option (Fl × En)
  | 0, _ => none
  | n + 1, e => (step e).bind fun r => if r.1 then (match r.2.1 with
      | .nx => whlL step n r.2.2
      | .ct => whlL step n r.2.2
      | .bk => some (.nx, r.2.2)
      | .rt d => some (.rt d, r.2.2)) else some (.nx, r.2.2)
def forL (step : P → En → Option (Fl × En)) (ok : En → Bool) : List P → En → Option (Fl × En)
  | [], e => some (.nx, e)
  | p :: ps, e => (step p e).bind fun r => match r.1 with
      | .nx => if ok r.2 then forL step ok ps r.2 else none
      | .ct => if ok r.2 then forL step ok ps r.2 else none
      | .bk => some (.nx, r.2)
      | .rt d => some (.rt d, r.2)
def stoSem (i : Nat) (k : P) (p : P) (e : En) : Option En := match getE e i, k with
  | some (.lst xs), .int j => (ixP xs.length j).bind fun n => some (e.set i (some (.lst (xs.set n p))))
  | some (.dic t kvs), q => if keyOk t q = true ∧ kvs.length < line then some (e.set i (some (.dic t (putKV kvs q p)))) else none
  | _, _ => none
def asgD (t : Pat) (o : Opd) (e : En) : Option En := match o with
  | .tmp (.imm p) => bindP t p e
  | .tmp (.lst ps) => (match t with
    | .nm i => some (e.set i (some (.lst ps)))
    | .tp _ => none)
  | .tmp (.dic b kvs) => (match t with
    | .nm i => some (e.set i (some (.dic b kvs)))
    | .tp _ => none)
  | .slot _ => none
def setAll : List Nat → List Opd → En → Option En
  | [], [], e => some e
  | i :: is, .tmp d :: os, e => setAll is os (e.set i (some d))
  | _, _, _ => none
def retD (o : Opd) (e : En) : Option (Fl × En) := match o with
  | .tmp d => some (.rt d, e)
  | .slot i => (getE e i).bind fun d => some (.rt d, e.set i none)
/-- x op= y -/
def augSem (o : Op) (x y : D) : Option D := match o, x, y with
  | .add, .imm (.int a), .imm (.int b) => ii (a + b)
  | .add, .imm (.str a), .imm (.str b) => if a.length + b.length ≤ line then some (.imm (.str (a ++ b))) else none
  | .sub, .imm (.int a), .imm (.int b) => ii (a - b)
  | _, _, _ => none
/- the names that a statement gives anew -/
mutual
def asgP : Pat → List Nat
  | .nm i => [i]
  | .tp ts => asgPs ts
def asgPs : List Pat → List Nat
  | [] => []
  | t :: ts => asgP t ++ asgPs ts
end
mutual
def asgT : T → List Nat
  | .asg t _ => asgP t
  | .par is _ => is
  | .aug i _ _ => [i]
  | .ifs _ a b => asgTs a ++ asgTs b
  | .fors t _ _ body => asgP t ++ asgTs body
  | .whl _ _ body => asgTs body
  | _ => []
def asgTs : List T → List Nat
  | [] => []
  | a :: as => asgT a ++ asgTs as
end
mutual
def ex (Φ : CallS) (G : List P) : T → En → Option (Fl × En)
  | .asg t a, e => (evo Φ G a e).bind fun x => (asgD t x.1 x.2).bind fun e' => some (.nx, e')
  | .par is es, e => (evos Φ G es e).bind fun r => (setAll is r.1 r.2).bind fun e' => some (.nx, e')
  | .aug i o a, e => (nmSem i e).bind fun u => (evo Φ G a e).bind fun y => (resvs y.2 [u, y.1]).bind fun ds => (match ds with
      | [du, dy] => augSem o du dy
      | _ => none).bind fun d => some (.nx, y.2.set i (some d))
  | .sto i k a, e => (evo Φ G a e).bind fun x => (immO x.1).bind fun p => (getE x.2 i).bind fun _ => (evo Φ G k x.2).bind fun y => (immO y.1).bind fun q => (stoSem i q p y.2).bind fun e' => some (.nx, e')
  | .augs i k o a, e => (getE e i).bind fun _ => (evo Φ G k e).bind fun y => (immO y.1).bind fun q => (getE y.2 i).bind fun d1 => (if isImm d1 then none else opSem .idx [d1, .imm q]).bind fun old => (evo Φ G a y.2).bind fun x => (resv x.2 x.1).bind fun dx => (augSem o old dx).bind fun new => (toImm new).bind fun p => (stoSem i q p x.2).bind fun e' => some (.nx, e')
  | .sto2 i k1 j k2 a b, e => (evo Φ G a e).bind fun x => (immO x.1).bind fun p => (evo Φ G b x.2).bind fun y => (immO y.1).bind fun q => (getE y.2 i).bind fun _ => (evo Φ G k1 y.2).bind fun z => (immO z.1).bind fun r => (stoSem i r p z.2).bind fun e2 => (getE e2 j).bind fun _ => (evo Φ G k2 e2).bind fun w => (immO w.1).bind fun t => (stoSem j t q w.2).bind fun e3 => some (.nx, e3)
  | .ex a, e => (evo Φ G a e).bind fun x => some (.nx, x.2)
  | .ret a, e => (evo Φ G a e).bind fun x => retD x.1 x.2
  | .ret0, e => some (.rt (.imm .non), e)
  | .ifs t a b, e => (evo Φ G t e).bind fun x => (resv x.2 x.1).bind fun d => (truth d).bind fun k => if k then exs Φ G a x.2 else exs Φ G b x.2
  | .fors t k as body, e => (evos Φ G as e).bind fun r => (resvs r.2 r.1).bind fun ds => (items k ds).bind fun ps =>
      if freeOf r.1 (asgP t ++ asgTs body) then forL (fun p e2 => (bindP t p e2).bind fun e3 => exs Φ G body e3) (fun e' => lockOk r.1 r.2 e') ps r.2 else none
  | .whl n t body, e => whlL (fun e => (evo Φ G t e).bind fun x => (resv x.2 x.1).bind fun d => (truth d).bind fun k => if k then (exs Φ G body x.2).bind fun r => some (true, r.1, r.2) else some (false, .nx, x.2)) n e
  | .brk, e => some (.bk, e)
  | .cont, e => some (.ct, e)
  | .pass, e => some (.nx, e)
  | .never, _ => none
def exs (Φ : CallS) (G : List P) : List T → En → Option (Fl × En)
  | [], e => some (.nx, e)
  | a :: as, e => (ex Φ G a e).bind fun r => match r.1 with
      | .nx => exs Φ G as r.2
      | f => some (f, r.2)
end
/-! ### functions -/
structure Fn where
  np : Nat
  n : Nat
  body : List T
/-- what stands at a parameter behind the call: i its place, as the argument was -/
def outs (asg : List Nat) (e : En) : List D → Nat → Option (List D)
  | [], _ => some []
  | d :: ds, i => (match d with
    | .imm _ => some d
    | .lst _ => if asg.contains i then none else getE e i
    | .dic _ _ => if asg.contains i then none else getE e i).bind fun r => (outs asg e ds (i + 1)).bind fun rs => some (r :: rs)
def callF (prog : List Fn) (G : List P) : Nat → CallS
  | 0, _, _ => none
  | k + 1, f, args => (prog[f]?).bind fun fn => if args.length = fn.np then
      (exs (callF prog G k) G fn.body (args.map some ++ List.replicate (fn.n - fn.np) none)).bind fun r => match r.1 with
        | .nx => (outs (asgTs fn.body) r.2 args 0).bind fun rs => some (.imm .non, rs)
        | .rt d => (outs (asgTs fn.body) r.2 args 0).bind fun rs => some (d, rs)
        | _ => none
      else none
end Sw
/-! Sw, part 3: frames for operands, names and ends. -/
namespace Sw
open PySem PySem.Spec PyProof.Rows L2
section
variable {K : PySem.W.Frag} {H H1 H2 H3 H' : Hp}
inductive PkAll (K : PySem.W.Frag) (H : Hp) : List V → List D → Prop
  | nil : PkAll K H [] []
  | cons {v : V} {vs : List V} {d : D} {ds : List D} : (∃ F, Rep K H v d F) → PkAll K H vs ds → PkAll K H (v :: vs) (d :: ds)
/-- an operand: a value of its own, or what a name holds -/
def ORep (K : PySem.W.Frag) (H : Hp) (σ : L2.St) (v : V) (o : Opd) (F : List Addr) : Prop := match o with
  | .tmp d => Rep K H v d F
  | .slot i => σ[i]? = some (some v) ∧ F = []
inductive ORs (K : PySem.W.Frag) (H : Hp) (σ : L2.St) : List V → List Opd → List Addr → Prop
  | nil : ORs K H σ [] [] []
  | cons {v : V} {vs : List V} {o : Opd} {os : List Opd} {F G : List Addr} : ORep K H σ v o F → ORs K H σ vs os G → ORs K H σ (v :: vs) (o :: os) (F ++ G)
theorem ORep.mut {σ : L2.St} {v : V} {o : Opd} {F : List Addr} (h : ORep K H σ v o F) : MutF H F := by
  cases o with
  | tmp d => exact Rep.mut (show Rep K H v d F from h)
  | slot i => obtain ⟨_, e⟩ := (show σ[i]? = some (some v) ∧ F = [] from h); subst e; intro a z; cases z
theorem ORep.mono {σ : L2.St} {v : V} {o : Opd} {F : List Addr} (h : ORep K H σ v o F) (k : Keeps H H') (hf : ∀ a ∈ F, H' a = H a) : ORep K H' σ v o F := by
  cases o with
  | tmp d => exact Rep.mono (show Rep K H v d F from h) k hf
  | slot i => exact h
theorem ORs.mut {σ : L2.St} {vs : List V} {os : List Opd} {F : List Addr} (h : ORs K H σ vs os F) : MutF H F := by
  induction h with
  | nil => intro a z; cases z
  | cons r _ ih => exact r.mut.append ih
theorem ORs.mono {σ : L2.St} {vs : List V} {os : List Opd} {F : List Addr} (h : ORs K H σ vs os F) (k : Keeps H H') (hf : ∀ a ∈ F, H' a = H a) : ORs K H' σ vs os F := by
  induction h with
  | nil => exact .nil
  | cons r _ ih => exact .cons (r.mono k fun a z => hf a (List.mem_append_left _ z)) (ih fun a z => hf a (List.mem_append_right _ z))

/-! ### lists of addresses -/
theorem nd_left {F G : List Addr} (h : (F ++ G).Nodup) : F.Nodup := (List.nodup_append.mp h).1
theorem nd_right {F G : List Addr} (h : (F ++ G).Nodup) : G.Nodup := (List.nodup_append.mp h).2.1
theorem nd_off {F G : List Addr} (h : (F ++ G).Nodup) : ∀ a ∈ F, a ∉ G := fun a z y => (List.nodup_append.mp h).2.2 a z a y rfl
theorem nd_mk {F G : List Addr} (a : F.Nodup) (b : G.Nodup) (c : ∀ x ∈ F, x ∉ G) : (F ++ G).Nodup := List.nodup_append.mpr ⟨a, b, fun x hx y hy e => c x hx (e ▸ hy)⟩
/-- a value that waits, and a step of the rest -/
theorem stp_two {F Fd F1 G : List Addr} (s1 : Stp H F H1 (Fd ++ F1)) (n1 : (Fd ++ F1).Nodup) (md : MutF H1 Fd) (s2 : Stp H1 F1 H2 G) (n2 : G.Nodup) : Stp H F H2 (Fd ++ G) ∧ (Fd ++ G).Nodup :=
  ⟨s1.trans (s2.frameL Fd), nd_mk (nd_left n1) n2 (s2.apart md (nd_off n1))⟩
theorem stp_keep {F1 G Fd : List Addr} (s2 : Stp H1 F1 H2 G) (m1 : MutF H1 F1) (md : MutF H1 Fd) (n1 : (Fd ++ F1).Nodup) : Keeps H1 H2 ∧ ∀ a ∈ Fd, H2 a = H1 a :=
  ⟨s2.keeps m1, s2.off md (nd_off n1)⟩
/-- new objects alone, what waited is dropped -/
theorem stp_new {F Fs F2 F3 : List Addr} (s : Stp H F H2 (Fs ++ F2)) (n : (Fs ++ F2).Nodup) (m : MutF H2 F2) (sm : Same H2 H3) (fr : ∀ a ∈ F3, H2 a = none) (n3 : F3.Nodup) : Stp H F H3 (F3 ++ F2) ∧ (F3 ++ F2).Nodup := by
  refine ⟨s.trans ⟨fun a o e _ => sm a o e, fun a z => ?_⟩, nd_mk n3 (nd_right n) fun a z y => ?_⟩
  · rcases List.mem_append.mp z with z | z
    · exact .inr (fr a z)
    · exact .inl (List.mem_append_right _ z)
  · obtain ⟨o, e, _⟩ := m a y
    rw [fr a z] at e; cases e
theorem same_off {F : List Addr} (sm : Same H H') (m : MutF H F) : ∀ a ∈ F, H' a = H a := fun a z => by
  obtain ⟨o, e, _⟩ := m a z
  rw [e, sm a o e]
theorem EnvRep.same {σ : L2.St} {e : En} {F : List Addr} (h : EnvRep K H σ e F) (sm : Same H H') : EnvRep K H' σ e F := h.mono (Keeps.of_same sm) (same_off sm h.mut)
theorem Rep.same {v : V} {d : D} {F : List Addr} (h : Rep K H v d F) (sm : Same H H') : Rep K H' v d F := h.mono (Keeps.of_same sm) (same_off sm h.mut)

/-! ### names -/
theorem EnvRep.len {σ : L2.St} {e : En} {F : List Addr} (h : EnvRep K H σ e F) : σ.length = e.length := by
  induction h with
  | nil => rfl
  | ns _ ih => simp [ih]
  | sm _ _ ih => simp [ih]
theorem getE_nil (i : Nat) : getE [] i = none := by simp [getE]
theorem getE_zero (x : Option D) (e : En) : getE (x :: e) 0 = x := by simp [getE]
theorem getE_succ (x : Option D) (e : En) (i : Nat) : getE (x :: e) (i + 1) = getE e i := by simp [getE]
theorem EnvRep.get {σ : L2.St} {e : En} {F : List Addr} (h : EnvRep K H σ e F) : ∀ {i : Nat} {d : D}, getE e i = some d → ∃ v Fi, σ[i]? = some (some v) ∧ Rep K H v d Fi ∧ ∀ a ∈ Fi, a ∈ F := by
  induction h with
  | nil => intro i d q; rw [getE_nil] at q; cases q
  | ns _ ih =>
    intro i d q
    cases i with
    | zero => rw [getE_zero] at q; cases q
    | succ i =>
      rw [getE_succ] at q
      obtain ⟨v, Fi, h1, h2, h3⟩ := ih q
      exact ⟨v, Fi, by simpa using h1, h2, h3⟩
  | @sm v0 d0 σ0 e0 F0 G0 r _ ih =>
    intro i d q
    cases i with
    | zero =>
      rw [getE_zero] at q
      cases q
      exact ⟨v0, F0, rfl, r, fun a z => List.mem_append_left _ z⟩
    | succ i =>
      rw [getE_succ] at q
      obtain ⟨v, Fi, h1, h2, h3⟩ := ih q
      exact ⟨v, Fi, by simpa using h1, h2, fun a z => List.mem_append_right _ (h3 a z)⟩
theorem EnvRep.setD {σ : L2.St} {e : En} {F Fd : List Addr} {v : V} {d : D} (h : EnvRep K H σ e F) (r : Rep K H v d Fd) : ∀ (i : Nat), ∃ F', EnvRep K H (σ.set i (some v)) (e.set i (some d)) F' ∧ (∀ a ∈ F', a ∈ Fd ∨ a ∈ F) ∧ ((Fd ++ F).Nodup → F'.Nodup) := by
  induction h with
  | nil => intro i; exact ⟨[], .nil, fun a z => .inr z, fun _ => List.nodup_nil⟩
  | @ns x0 σ0 e0 F0 h0 ih =>
    intro i
    cases i with
    | zero => exact ⟨Fd ++ F0, .sm r h0, fun a z => List.mem_append.mp z, fun n => n⟩
    | succ i =>
      obtain ⟨F', h1, h2, h3⟩ := ih i
      exact ⟨F', .ns h1, h2, h3⟩
  | @sm v0 d0 σ0 e0 F0 G0 r0 h0 ih =>
    intro i
    cases i with
    | zero =>
      refine ⟨Fd ++ G0, .sm r h0, fun a z => (List.mem_append.mp z).elim .inl fun z => .inr (List.mem_append_right _ z), fun n => ?_⟩
      refine nd_mk (nd_left n) (nd_right (nd_right n)) fun a z y => nd_off n a z (List.mem_append_right _ y)
    | succ i =>
      obtain ⟨F', h1, h2, h3⟩ := ih i
      refine ⟨F0 ++ F', .sm r0 h1, fun a z => (List.mem_append.mp z).elim (fun z => .inr (List.mem_append_left _ z)) fun z => (h2 a z).elim .inl fun z => .inr (List.mem_append_right _ z), fun n => ?_⟩
      have nG : (Fd ++ G0).Nodup := nd_mk (nd_left n) (nd_right (nd_right n)) fun a z y => nd_off n a z (List.mem_append_right _ y)
      refine nd_mk (nd_left (nd_right n)) (h3 nG) fun a z y => ?_
      rcases h2 a y with q | q
      · exact nd_off n a q (List.mem_append_left _ z)
      · exact nd_off (nd_right n) a z q
theorem EnvRep.setN {σ : L2.St} {e : En} {F : List Addr} (h : EnvRep K H σ e F) : ∀ (i : Nat), ∃ F', EnvRep K H σ (e.set i none) F' ∧ (∀ a ∈ F', a ∈ F) ∧ (F.Nodup → F'.Nodup) := by
  induction h with
  | nil => intro i; exact ⟨[], .nil, fun a z => z, fun _ => List.nodup_nil⟩
  | @ns x0 σ0 e0 F0 h0 ih =>
    intro i
    cases i with
    | zero => exact ⟨F0, .ns h0, fun a z => z, fun n => n⟩
    | succ i =>
      obtain ⟨F', h1, h2, h3⟩ := ih i
      exact ⟨F', .ns h1, h2, h3⟩
  | @sm v0 d0 σ0 e0 F0 G0 r0 h0 ih =>
    intro i
    cases i with
    | zero => exact ⟨G0, .ns h0, fun a z => List.mem_append_right _ z, fun n => nd_right n⟩
    | succ i =>
      obtain ⟨F', h1, h2, h3⟩ := ih i
      refine ⟨F0 ++ F', .sm r0 h1, fun a z => (List.mem_append.mp z).elim (fun z => List.mem_append_left _ z) fun z => List.mem_append_right _ (h2 a z), fun n => ?_⟩
      exact nd_mk (nd_left n) (h3 (nd_right n)) fun a z y => nd_off n a z (h2 a y)
/-- the slot's own value taken out: its objects and those of the others -/
theorem EnvRep.out {σ : L2.St} {e : En} {F : List Addr} (h : EnvRep K H σ e F) : ∀ {i : Nat} {d : D}, getE e i = some d → ∃ v Fi F', σ[i]? = some (some v) ∧ Rep K H v d Fi ∧ EnvRep K H σ (e.set i none) F' ∧ (∀ a, a ∈ Fi ++ F' → a ∈ F) ∧ (F.Nodup → (Fi ++ F').Nodup) := by
  induction h with
  | nil => intro i d q; rw [getE_nil] at q; cases q
  | @ns x0 σ0 e0 F0 h0 ih =>
    intro i d q
    cases i with
    | zero => rw [getE_zero] at q; cases q
    | succ i =>
      rw [getE_succ] at q
      obtain ⟨v, Fi, F', h1, h2, h3, h4, h5⟩ := ih q
      exact ⟨v, Fi, F', by simpa using h1, h2, .ns h3, h4, h5⟩
  | @sm v0 d0 σ0 e0 F0 G0 r h0 ih =>
    intro i d q
    cases i with
    | zero =>
      rw [getE_zero] at q
      cases q
      exact ⟨v0, F0, G0, rfl, r, .ns h0, fun a z => z, fun n => n⟩
    | succ i =>
      rw [getE_succ] at q
      obtain ⟨v, Fi, F', h1, h2, h3, h4, h5⟩ := ih q
      refine ⟨v, Fi, F0 ++ F', by simpa using h1, h2, .sm r h3, fun a z => ?_, fun n => ?_⟩
      · rcases List.mem_append.mp z with z | z
        · exact List.mem_append_right _ (h4 a (List.mem_append_left _ z))
        · rcases List.mem_append.mp z with z | z
          · exact List.mem_append_left _ z
          · exact List.mem_append_right _ (h4 a (List.mem_append_right _ z))
      · have n5 := h5 (nd_right n)
        refine nd_mk (nd_left n5) (nd_mk (nd_left n) (nd_right n5) fun a z y => nd_off n a z (h4 a (List.mem_append_right _ y))) fun a z y => ?_
        rcases List.mem_append.mp y with y | y
        · exact nd_off n a y (h4 a (List.mem_append_left _ z))
        · exact nd_off n5 a z y
/-- .. and put in again, at the same object -/
theorem EnvRep.into {σ : L2.St} {e : En} {F' Fi : List Addr} {v : V} {d : D} : ∀ {i : Nat}, EnvRep K H σ (e.set i none) F' → σ[i]? = some (some v) → Rep K H v d Fi → ∃ F, EnvRep K H σ (e.set i (some d)) F ∧ (∀ a, a ∈ F ↔ a ∈ Fi ++ F') ∧ ((Fi ++ F').Nodup → F.Nodup) := by
  intro i
  induction e generalizing σ F' i with
  | nil => intro h; cases h; intro q; simp at q
  | cons x e ih =>
    intro h q r
    cases i with
    | zero =>
      rw [List.set_cons_zero] at h
      cases h with
      | ns h =>
        simp at q
        subst q
        exact ⟨Fi ++ F', .sm r h, fun a => Iff.rfl, fun n => n⟩
    | succ i =>
      rw [List.set_cons_succ] at h
      cases h with
      | ns h =>
        obtain ⟨F, h1, h2, h3⟩ := ih h (by simpa using q) r
        exact ⟨F, .ns h1, h2, h3⟩
      | @sm v0 d0 σ0 _ F0 G0 r0 h =>
        obtain ⟨F, h1, h2, h3⟩ := ih h (by simpa using q) r
        refine ⟨F0 ++ F, .sm r0 h1, fun a => ?_, fun n => ?_⟩
        · simp only [List.mem_append, h2]
          constructor
          · rintro (h | h | h)
            · exact .inr (.inl h)
            · exact .inl h
            · exact .inr (.inr h)
          · rintro (h | h | h)
            · exact .inr (.inl h)
            · exact .inl h
            · exact .inr (.inr h)
        · have n1 : (Fi ++ G0).Nodup := nd_mk (nd_left n) (nd_right (nd_right n)) fun a z y => nd_off n a z (List.mem_append_right _ y)
          refine nd_mk (nd_left (nd_right n)) (h3 n1) fun a z y => ?_
          rcases List.mem_append.mp ((h2 a).mp y) with y | y
          · exact nd_off n a y (List.mem_append_left _ z)
          · exact nd_off (nd_right n) a z y
theorem getE_lt {e : En} {i : Nat} {d : D} (h : getE e i = some d) : i < e.length := by
  unfold getE at h
  cases q : e[i]? with
  | none => rw [q] at h; cases h
  | some x => exact (List.getElem?_eq_some_iff.mp q).1
theorem getE_set (e : En) (i : Nat) (x : Option D) (h : i < e.length) : getE (e.set i x) i = x := by
  unfold getE
  rw [List.getElem?_set_self h] <;> rfl
theorem getE_set_ne (e : En) {i j : Nat} (x : Option D) (h : i ≠ j) : getE (e.set i x) j = getE e j := by
  unfold getE
  rw [List.getElem?_set_ne h]
/-- a name's list, written -/
theorem EnvRep.write {σ : L2.St} {e : En} {F : List Addr} (h : EnvRep K H σ e F) (n : F.Nodup) {i : Nat} {xs : List P} (q : getE e i = some (.lst xs)) :
    ∃ a vs, σ[i]? = some (some (.ref a)) ∧ H a = some (.lst vs) ∧ PReps K H vs xs ∧ a ∈ F ∧ ∀ vs' ys, PReps K H vs' ys → ∃ F', EnvRep K (upd H a (.lst vs')) σ (e.set i (some (.lst ys))) F' ∧ F'.Nodup ∧ (∀ b, b ∈ F' → b ∈ F) ∧ Stp H F (upd H a (.lst vs')) F' := by
  obtain ⟨v, Fi, F', h1, h2, h3, h4, h5⟩ := h.out q
  cases h2 with
  | @lst a vs _ e0 r =>
    have n5 := h5 n
    have aF : a ∈ F := h4 a (List.mem_append_left _ (List.mem_singleton.mpr rfl))
    refine ⟨a, vs, h1, e0, r, aF, fun vs' ys r' => ?_⟩
    have kp : Keeps H (upd H a (.lst vs')) := fun b o e st => by
      rw [upd_ne (fun z => by subst z; rw [e0] at e; cases e; exact st trivial)]; exact e
    have h3' : EnvRep K (upd H a (.lst vs')) σ (e.set i none) F' := h3.mono kp fun b z => upd_ne fun y => by
      subst y
      exact nd_off n5 b (List.mem_singleton.mpr rfl) z
    obtain ⟨F2, g1, g2, g3⟩ := h3'.into h1 (Rep.lst (a := a) upd_same (r'.keep kp))
    have sub : ∀ b, b ∈ F2 → b ∈ F := fun b z => h4 b ((g2 b).mp z)
    refine ⟨F2, g1, g3 n5, sub, ⟨fun b o e z => ?_, fun b z => .inl (sub b z)⟩⟩
    rw [upd_ne (fun y : b = a => z (by rw [y]; exact aF))]
    exact e
/-- operands and names, read -/
theorem resv_ok {σ : L2.St} {e : En} {F Fd : List Addr} {v : V} {o : Opd} {d : D} (he : EnvRep K H σ e F) (r : ORep K H σ v o Fd) (q : resv e o = some d) : ∃ F, Rep K H v d F := by
  cases o with
  | tmp d' =>
    cases q
    exact ⟨Fd, r⟩
  | slot i =>
    obtain ⟨hi, _⟩ := (show σ[i]? = some (some v) ∧ Fd = [] from r)
    obtain ⟨v', Fi, h1, h2, _⟩ := he.get (show getE e i = some d from q)
    rw [hi] at h1
    cases h1
    exact ⟨Fi, h2⟩
theorem resvs_ok {σ : L2.St} {e : En} {F : List Addr} (he : EnvRep K H σ e F) : ∀ {vs : List V} {os : List Opd} {Fd : List Addr} {ds : List D}, ORs K H σ vs os Fd → resvs e os = some ds → PkAll K H vs ds := by
  intro vs os Fd ds h
  induction h generalizing ds with
  | nil => intro q; cases q; exact .nil
  | @cons v vs o os F0 G0 r _ ih =>
    intro q
    unfold resvs at q
    cases q1 : resv e o with
    | none => rw [q1] at q; cases q
    | some d =>
      rw [q1] at q
      cases q2 : resvs e os with
      | none => rw [q2] at q; cases q
      | some ds' =>
        rw [q2] at q
        cases q
        exact .cons (resv_ok he r q1) (ih q2)
theorem Rep.imm_of {v : V} {p : P} {F : List Addr} (h : Rep K H v (.imm p) F) : PRep K H v p ∧ F = [] := by
  cases h with
  | imm r => exact ⟨r, rfl⟩
theorem immOs_ok {σ : L2.St} : ∀ {vs : List V} {os : List Opd} {Fd : List Addr} {ps : List P}, ORs K H σ vs os Fd → immOs os = some ps → PReps K H vs ps ∧ Fd = [] := by
  intro vs os Fd ps h
  induction h generalizing ps with
  | nil => intro q; cases q; exact ⟨.nil, rfl⟩
  | @cons v vs o os F0 G0 r _ ih =>
    intro q
    unfold immOs at q
    cases q1 : immO o with
    | none => rw [q1] at q; cases q
    | some p =>
      rw [q1] at q
      cases q2 : immOs os with
      | none => rw [q2] at q; cases q
      | some ds' =>
        rw [q2] at q
        cases q
        obtain ⟨h1, h2⟩ := ih q2
        cases o with
        | slot _ => cases q1
        | tmp d =>
          cases d with
          | lst _ => cases q1
          | dic _ _ => cases q1
          | imm p' =>
            cases q1
            obtain ⟨g1, g2⟩ := Rep.imm_of (show Rep K H v (.imm p) F0 from r)
            exact ⟨.cons g1 h1, by rw [g2, h2] <;> rfl⟩
theorem immO_ok {σ : L2.St} {v : V} {o : Opd} {Fd : List Addr} {p : P} (r : ORep K H σ v o Fd) (q : immO o = some p) : PRep K H v p ∧ Fd = [] := by
  cases o with
  | slot _ => cases q
  | tmp d =>
    cases d with
    | lst _ => cases q
    | dic _ _ => cases q
    | imm p' => cases q; exact Rep.imm_of r
end

/-! ### readings -/
/-- an expression's -/
def tO (K : PySem.W.Frag) (f : M Opd) : TE := fun σ H Q => ∃ e F o e', EnvRep K H σ e F ∧ F.Nodup ∧ f e = some (o, e') ∧
  ∀ v H' Fd F', ORep K H' σ v o Fd → EnvRep K H' σ e' F' → (Fd ++ F').Nodup → Stp H F H' (Fd ++ F') → Q v H'
def tOs (K : PySem.W.Frag) (f : M (List Opd)) : TA := fun σ H Q => ∃ e F o e', EnvRep K H σ e F ∧ F.Nodup ∧ f e = some (o, e') ∧
  ∀ v H' Fd F', ORs K H' σ v o Fd → EnvRep K H' σ e' F' → (Fd ++ F').Nodup → Stp H F H' (Fd ++ F') → Q v H'
/-- a test's -/
def tB (K : PySem.W.Frag) (f : M Bool) : TT := fun σ H Q => ∃ e F b e', EnvRep K H σ e F ∧ F.Nodup ∧ f e = some (b, e') ∧
  ∀ H' F', EnvRep K H' σ e' F' → F'.Nodup → Stp H F H' F' → Q b H'
theorem PE.weak {X : Cx} {e : Expr} {t t' : TE} (h : PE X e t) (w : ∀ σ H Q, t' σ H Q → t σ H Q) : PE X e t' := ⟨fun pins s σ H Q I q => h.run pins s σ H Q I (w σ H Q q)⟩
theorem PA.weak {X : Cx} {e : List Expr} {t t' : TA} (h : PA X e t) (w : ∀ σ H Q, t' σ H Q → t σ H Q) : PA X e t' := ⟨fun p pins s σ H Q I q => h.run p pins s σ H Q I (w σ H Q q)⟩
theorem PT.weak {X : Cx} {e : Expr} {t t' : TT} (h : PT X e t) (w : ∀ σ H Q, t' σ H Q → t σ H Q) : PT X e t' := ⟨fun pins s σ H Q I q => h.run pins s σ H Q I (w σ H Q q)⟩
theorem PS.weak {X : Cx} {e : Stmt} {t t' : TS} (h : PS X e t) (w : ∀ D σ H, t' D σ H → t D σ H) : PS X e t' := ⟨fun pins s σ H D I q => h.run pins s σ H D I (w D σ H q)⟩
theorem PSs.weak {X : Cx} {e : List Stmt} {t t' : TS} (h : PSs X e t) (w : ∀ D σ H, t' D σ H → t D σ H) : PSs X e t' := ⟨fun pins s σ H D I q => h.run pins s σ H D I (w D σ H q)⟩
/-- two in a row: a value waits -/
theorem tO_bind {K : PySem.W.Frag} {f : M Opd} {σ : L2.St} {H : Hp} {Q : VK} {e e1 : En} {F : List Addr} {o : Opd} (he : EnvRep K H σ e F) (n : F.Nodup) (hf : f e = some (o, e1))
    (h : ∀ v H1 Fd F1, ORep K H1 σ v o Fd → EnvRep K H1 σ e1 F1 → (Fd ++ F1).Nodup → Stp H F H1 (Fd ++ F1) → Q v H1) : tO K f σ H Q := ⟨e, F, o, e1, he, n, hf, h⟩
/-- the ops on values: whatever they make is new -/
def OpOk (K : PySem.W.Frag) (r : List V → Hp → VK → Prop) (f : List D → Option D) : Prop :=
  ∀ vs ds H Q d, PkAll K H vs ds → f ds = some d → (∀ v H' F, Same H H' → Rep K H' v d F → (∀ a ∈ F, H a = none) → F.Nodup → Q v H') → r vs H Q
/-- operands, then an op -/
theorem ops_end {K : PySem.W.Frag} {r : List V → Hp → VK → Prop} {g : List D → Option D} (ok : OpOk K r g) {σ : L2.St} {H H2 : Hp} {Q : VK} {F Fs F2 : List Addr} {vs : List V} {os : List Opd} {e2 : En} {ds : List D} {d : D}
    (rs : ORs K H2 σ vs os Fs) (he : EnvRep K H2 σ e2 F2) (n : (Fs ++ F2).Nodup) (s : Stp H F H2 (Fs ++ F2)) (hr : resvs e2 os = some ds) (hg : g ds = some d)
    (hQ : ∀ v H' Fd F', ORep K H' σ v (.tmp d) Fd → EnvRep K H' σ e2 F' → (Fd ++ F').Nodup → Stp H F H' (Fd ++ F') → Q v H') : r vs H2 Q := by
  refine ok vs ds H2 Q d (resvs_ok he rs hr) hg fun v H3 F3 sm rp fr n3 => ?_
  obtain ⟨s3, n3'⟩ := stp_new s n he.mut sm fr n3
  exact hQ v H3 F3 F2 rp (he.same sm) n3' s3
theorem bind_some {α β : Type} {x : Option α} {f : α → Option β} {b : β} (h : x.bind f = some b) : ∃ a, x = some a ∧ f a = some b := by
  cases x with
  | none => cases h
  | some a => exact ⟨a, rfl, h⟩
end Sw
set_option maxHeartbeats 1000000
/-! Sw, part 4: the operators by values. -/
namespace Sw
open PySem PySem.Spec PyProof.Rows L2
section
variable {K : PySem.W.Frag} {H : Hp}
def r2n (r : R2) : List V → Hp → VK → Prop := fun vs H Q => ∃ x y, vs = [x, y] ∧ r x y H Q
def r1n (r : V → Hp → VK → Prop) : List V → Hp → VK → Prop := fun vs H Q => ∃ x, vs = [x] ∧ r x H Q
theorem PkAll.one {vs : List V} {d : D} (h : PkAll K H vs [d]) : ∃ v F, vs = [v] ∧ Rep K H v d F := by
  cases h with
  | cons a b => cases b; obtain ⟨F, a⟩ := a; exact ⟨_, F, rfl, a⟩
theorem PkAll.two {vs : List V} {d e : D} (h : PkAll K H vs [d, e]) : ∃ v u F G, vs = [v, u] ∧ Rep K H v d F ∧ Rep K H u e G := by
  cases h with
  | cons a b => cases b with
    | cons b c => cases c; obtain ⟨F, a⟩ := a; obtain ⟨G, b⟩ := b; exact ⟨_, _, F, G, rfl, a, b⟩
theorem PkAll.three {vs : List V} {d e f : D} (h : PkAll K H vs [d, e, f]) : ∃ v u w F G L, vs = [v, u, w] ∧ Rep K H v d F ∧ Rep K H u e G ∧ Rep K H w f L := by
  cases h with
  | cons a b => cases b with
    | cons b c => cases c with
      | cons c d => cases d; obtain ⟨F, a⟩ := a; obtain ⟨G, b⟩ := b; obtain ⟨L, c⟩ := c; exact ⟨_, _, _, F, G, L, rfl, a, b, c⟩
theorem Rep.int_of {v : V} {i : Int} {F : List Addr} (h : Rep K H v (.imm (.int i)) F) : v = .int i := by
  obtain ⟨h, _⟩ := h.imm_of; cases h; rfl
theorem Rep.bl_of {v : V} {i : Bool} {F : List Addr} (h : Rep K H v (.imm (.bl i)) F) : v = .bl i := by
  obtain ⟨h, _⟩ := h.imm_of; cases h; rfl
theorem Rep.str_of {v : V} {s : List Nat} {F : List Addr} (h : Rep K H v (.imm (.str s)) F) : v = .str (sOf s) ∧ chrOk s = true := by
  obtain ⟨h, _⟩ := h.imm_of; cases h with | str _ c => exact ⟨rfl, c⟩
theorem Rep.tup_st {v : V} {ps : List P} {F : List Addr} (h : Rep K H v (.imm (.tup ps)) F) : ∃ a xs, v = .ref a ∧ H a = some (.tup xs) ∧ PReps K H xs ps := by
  obtain ⟨h, _⟩ := h.imm_of; cases h with | tup a b => exact ⟨_, _, rfl, a, b⟩
theorem Rep.tup_of {v : V} {ps : List P} {F : List Addr} (h : Rep K H v (.imm (.tup ps)) F) : ∃ a xs, v = .ref a ∧ SqT K H a xs ∧ PReps K H xs ps := by
  obtain ⟨a, xs, h1, h2, h3⟩ := h.tup_st
  exact ⟨a, xs, h1, SqT.of h2, h3⟩
theorem Rep.flst_of {v : V} {ps : List P} {F : List Addr} (h : Rep K H v (.imm (.lst ps)) F) : ∃ a xs, v = .ref a ∧ FzL K H a xs ∧ PReps K H xs ps := by
  obtain ⟨h, _⟩ := h.imm_of; cases h with | lst a b => exact ⟨_, _, rfl, a, b⟩
theorem Rep.lst_of {v : V} {ps : List P} {F : List Addr} (h : Rep K H v (.lst ps) F) : ∃ a xs, v = .ref a ∧ H a = some (.lst xs) ∧ PReps K H xs ps ∧ F = [a] := by
  cases h with | lst a b => exact ⟨_, _, rfl, a, b, rfl⟩
/-- a list or tuple, owned or not, for reading -/
theorem Rep.seq_st {v : V} {d : D} {F : List Addr} {ps : List P} (h : Rep K H v d F) (e : elems d = some ps) (ns : ∀ s, d ≠ .imm (.str s)) : ∃ a xs, v = .ref a ∧ (SqL K H a xs ∨ H a = some (.tup xs)) ∧ PReps K H xs ps := by
  cases d with
  | lst qs =>
    obtain ⟨a, xs, h1, h2, h3, _⟩ := h.lst_of
    cases e
    exact ⟨a, xs, h1, .inl (SqL.of h2), h3⟩
  | imm p =>
    cases p with
    | tup qs =>
      obtain ⟨a, xs, h1, h2, h3⟩ := h.tup_st
      cases e
      exact ⟨a, xs, h1, .inr h2, h3⟩
    | lst qs =>
      obtain ⟨a, xs, h1, h2, h3⟩ := h.flst_of
      cases e
      exact ⟨a, xs, h1, .inl h2.sql, h3⟩
    | str s => exact absurd rfl (ns s)
    | _ => cases e
  | dic _ _ => cases e
theorem Rep.seq_of {v : V} {d : D} {F : List Addr} {ps : List P} (h : Rep K H v d F) (e : elems d = some ps) (ns : ∀ s, d ≠ .imm (.str s)) : ∃ a xs, v = .ref a ∧ (SqL K H a xs ∨ SqT K H a xs) ∧ PReps K H xs ps := by
  obtain ⟨a, xs, h1, h2, h3⟩ := h.seq_st e ns
  exact ⟨a, xs, h1, h2.elim .inl fun z => .inr (SqT.of z), h3⟩
theorem sizeLine_is : (sizeLine : Nat) = 16777216 := by decide
theorem le_line {n : Nat} (h : n ≤ line) : n ≤ sizeLine := by rw [sizeLine_is]; exact h
theorem lt_line {n : Nat} (h : n < line) : n < sizeLine := by rw [sizeLine_is]; exact h
theorem fin_imm {r : Prop} {Q : VK} {p : P} {v : V} (hQ : ∀ v H' F, Same H H' → Rep K H' v (.imm p) F → (∀ a ∈ F, H a = none) → F.Nodup → Q v H') (h : PRep K H v p) : Q v H :=
  hQ v H [] (Same.refl H) (.imm h) (fun a z => nomatch z) List.nodup_nil
theorem same_new {a : Addr} {o : HO} (h : H a = none) : Same H (upd H a o) := fun b x e => by rw [upd_ne (ne_of_none e h)]; exact e
/-- a new tuple -/
theorem fin_tup {Q : VK} {ps : List P} {xs : List V} {a : Addr} (hQ : ∀ v H' F, Same H H' → Rep K H' v (.imm (.tup ps)) F → (∀ a ∈ F, H a = none) → F.Nodup → Q v H') (n : H a = none) (h : PReps K H xs ps) : Q (.ref a) (upd H a (.tup xs)) :=
  hQ _ _ [] (same_new n) (.imm (.tup upd_same (h.keep (Keeps.of_same (same_new n))))) (fun a z => nomatch z) List.nodup_nil
theorem fin_lst {Q : VK} {ps : List P} {xs : List V} {a : Addr} (hQ : ∀ v H' F, Same H H' → Rep K H' v (.lst ps) F → (∀ a ∈ F, H a = none) → F.Nodup → Q v H') (n : H a = none) (h : PReps K H xs ps) : Q (.ref a) (upd H a (.lst xs)) :=
  hQ _ _ [a] (same_new n) (.lst upd_same (h.keep (Keeps.of_same (same_new n)))) (fun b z => by rw [List.mem_singleton.mp z]; exact n) (by simp)

/-! ### == -/
theorem toPys_map : ∀ xs, toPys xs = xs.map toPy
  | [] => rfl
  | x :: xs => by rw [toPys, List.map_cons, toPys_map xs]
mutual
theorem PRep.dp : ∀ {p : P} {v : V}, PRep K H v p → Dp K H v (toPy p)
  | .non, _, h => by cases h; exact .non
  | .bl b, _, h => by cases h; exact .bl b
  | .int i, _, h => by cases h; exact .int i
  | .str s, _, h => by cases h; exact .str _
  | .tup ps, _, h => by cases h with | tup a b => exact .tup (SqT.of a) (PReps.dp b)
  | .lst ps, _, h => by cases h with | lst a b => exact .lst a.sql (PReps.dp b)
theorem PReps.dp : ∀ {ps : List P} {vs : List V}, PReps K H vs ps → DpAll K H vs (toPys ps)
  | [], _, h => by cases h; exact .nil
  | p :: ps, _, h => by cases h with | cons a b => exact .cons (PRep.dp a) (PReps.dp b)
end
theorem Rep.dp {v : V} {d : D} {F : List Addr} (h : Rep K H v d F) (nd : isDic d = false) : Dp K H v (toPy (rd d)) := by
  cases h with
  | imm h => exact h.dp
  | lst e r => exact .lst (SqL.of e) r.dp
  | dicK e r => cases nd
  | dicT e r => cases nd
mutual
theorem PRep.lay : ∀ {p : P} {v : V}, PRep K H v p → (toPy p).canLay0 = true
  | .non, _, _ => by simp [toPy, PyData.canLay0]
  | .bl b, _, _ => by simp [toPy, PyData.canLay0]
  | .int i, _, _ => by simp [toPy, PyData.canLay0]
  | .str s, _, h => by
    cases h with
    | str _ c =>
      simp only [toPy, PyData.canLay0, PyData.strOk, sOf]
      rw [← Array.all_toList]
      exact c
  | .tup ps, _, h => by cases h with | tup a b => simp only [toPy, PyData.canLay0]; exact PReps.lay b
  | .lst ps, _, h => by cases h with | lst a b => simp only [toPy, PyData.canLay0]; exact PReps.lay b
theorem PReps.lay : ∀ {ps : List P} {vs : List V}, PReps K H vs ps → PyData.canLayAll0 (toPys ps) = true
  | [], _, _ => by simp [toPys, PyData.canLayAll0]
  | p :: ps, _, h => by cases h with | cons a b => simp [toPys, PyData.canLayAll0, PRep.lay a, PReps.lay b]
end
mutual
theorem depth_py : ∀ p : P, (toPy p).depth = depth p
  | .non => by simp [toPy, PyData.depth, depth]
  | .bl b => by simp [toPy, PyData.depth, depth]
  | .int i => by simp [toPy, PyData.depth, depth]
  | .str s => by simp [toPy, PyData.depth, depth]
  | .tup ps => by simp [toPy, PyData.depth, depth, depths_py ps]
  | .lst ps => by simp [toPy, PyData.depth, depth, depths_py ps]
theorem depths_py : ∀ ps : List P, PyData.depthAll (toPys ps) = depths ps
  | [] => by simp [toPys, PyData.depthAll, depths]
  | p :: ps => by simp [toPys, PyData.depthAll, depths, depth_py p, depths_py ps]
end
theorem Rep.lay {v : V} {d : D} {F : List Addr} (h : Rep K H v d F) (nd : isDic d = false) : (toPy (rd d)).canLay0 = true := by
  cases h with
  | imm h => exact h.lay
  | lst e r => simp only [rd, toPy, PyData.canLay0]; exact r.lay
  | dicK e r => cases nd
  | dicT e r => cases nd
theorem sOf_eq (a b : List Nat) : (sOf a == sOf b) = (a == b) := by
  by_cases h : a = b
  · subst h; simp
  · have : sOf a ≠ sOf b := fun e => h (sOf_inj e)
    rw [beq_eq_false_iff_ne.mpr this, beq_eq_false_iff_ne.mpr h]
mutual
theorem eqv_py : ∀ p q : P, PyData.eqv (toPy p) (toPy q) = peq p q
  | .non, q => by cases q <;> simp [toPy, PyData.eqv, peq]
  | .bl b, q => by cases q <;> simp [toPy, PyData.eqv, peq]
  | .int i, q => by cases q <;> simp [toPy, PyData.eqv, peq]
  | .str s, q => by cases q <;> simp [toPy, PyData.eqv, peq, sOf_eq]
  | .tup ps, q => by
    cases q with
    | tup qs => simp [toPy, PyData.eqv, peq, eqvs_py ps qs]
    | _ => simp [toPy, PyData.eqv, peq]
  | .lst ps, q => by
    cases q with
    | lst qs => simp [toPy, PyData.eqv, peq, eqvs_py ps qs]
    | _ => simp [toPy, PyData.eqv, peq]
theorem eqvs_py : ∀ ps qs : List P, PyData.eqvAll (toPys ps) (toPys qs) = peqs ps qs
  | [], qs => by cases qs <;> simp [toPys, PyData.eqvAll, peqs]
  | p :: ps, qs => by
    cases qs with
    | nil => simp [toPys, PyData.eqvAll, peqs]
    | cons q qs => simp [toPys, PyData.eqvAll, peqs, eqv_py p q, eqvs_py ps qs]
end
/-- == of any two: the deeper one may be of any depth -/
def rEqP (K : PySem.W.Frag) : R2 := fun x y H Q => ∃ d e, Dp K H x d ∧ Dp K H y e ∧ d.canLay0 = true ∧ e.canLay0 = true ∧ min d.depth e.depth ≤ 60 ∧ Q (.bl (PyData.eqv d e)) H
def rNeP (K : PySem.W.Frag) : R2 := fun x y H Q => ∃ d e, Dp K H x d ∧ Dp K H y e ∧ d.canLay0 = true ∧ e.canLay0 = true ∧ min d.depth e.depth ≤ 60 ∧ Q (.bl (!PyData.eqv d e)) H
theorem op_eqP {X : Cx} (hu : X.A.units + 64 < cLine) : OpR X (compareOp .Eq) (rEqP X.K) := by
  intro pins s σ H x y v u Q I rx ry h
  obtain ⟨d, e, hd, he, sd, se, hm, q⟩ := h
  obtain ⟨as, r1⟩ := Dp.reads I d x v hd rx
  obtain ⟨bs, r2⟩ := Dp.reads I e y u he ry
  exact SeqAt.compareEq_reads r1 r2 sd se (by omega) ⟨.bl _, H, I, rfl, q⟩
theorem op_neP {X : Cx} (hu : X.A.units + 64 < cLine) : OpR X (compareOp .NotEq) (rNeP X.K) := by
  intro pins s σ H x y v u Q I rx ry h
  obtain ⟨d, e, hd, he, sd, se, hm, q⟩ := h
  obtain ⟨as, r1⟩ := Dp.reads I d x v hd rx
  obtain ⟨bs, r2⟩ := Dp.reads I e y u he ry
  exact SeqAt.compareNe_reads r1 r2 sd se (by omega) ⟨.bl _, H, I, rfl, q⟩
theorem ib_inv {b : Bool} {d : D} (h : ib b = some d) : d = .imm (.bl b) := by unfold ib at h; exact (Option.some.inj h).symm
theorem ii_inv {b : Int} {d : D} (h : ii b = some d) : d = .imm (.int b) := by unfold ii at h; exact (Option.some.inj h).symm
theorem ok_eq : OpOk K (r2n (rEqP K)) (opSem .eq) := by
  intro vs ds H Q d pk h hQ
  match ds, pk, h with
  | [x, y], pk, h =>
    obtain ⟨v, u, F, G, rfl, r1, r2⟩ := pk.two
    have h : (cmpEq x y).bind ib = some d := h
    obtain ⟨b, h1, h2⟩ := bind_some h
    obtain rfl := ib_inv h2
    unfold cmpEq at h1
    split at h1
    · rename_i hm
      obtain ⟨d1, d2, hm⟩ := hm
      cases h1
      refine ⟨v, u, rfl, _, _, r1.dp d1, r2.dp d2, r1.lay d1, r2.lay d2, by rw [depth_py, depth_py]; exact hm, ?_⟩
      rw [eqv_py]
      exact fin_imm (r := True) hQ (.bl _)
    · cases h1
theorem ok_ne : OpOk K (r2n (rNeP K)) (opSem .ne) := by
  intro vs ds H Q d pk h hQ
  match ds, pk, h with
  | [x, y], pk, h =>
    obtain ⟨v, u, F, G, rfl, r1, r2⟩ := pk.two
    have h : (cmpEq x y).bind (fun b => ib (!b)) = some d := h
    obtain ⟨b, h1, h2⟩ := bind_some h
    obtain rfl := ib_inv h2
    unfold cmpEq at h1
    split at h1
    · rename_i hm
      obtain ⟨d1, d2, hm⟩ := hm
      cases h1
      refine ⟨v, u, rfl, _, _, r1.dp d1, r2.dp d2, r1.lay d1, r2.lay d2, by rw [depth_py, depth_py]; exact hm, ?_⟩
      rw [eqv_py]
      exact fin_imm (r := True) hQ (.bl _)
    · cases h1
/-! ### dicts -/
theorem KRep.val {k : L2.Key} {p : P} (h : KRep k p) : PRep K H (kV k) p := by
  cases h with
  | int i => exact .int i
  | str s c => exact .str s c
theorem key_of_prep {p : P} {v : V} (hk : keyK p = true) (h : PRep K H v p) : ∃ k, v = kV k ∧ KRep k p := by
  cases h with
  | int i => exact ⟨.inl i, rfl, .int i⟩
  | str s c => exact ⟨.inr (sOf s), rfl, .str s c⟩
  | _ => cases hk
theorem keys_of_preps : ∀ {ps : List P} {xs : List V}, ps.all keyK = true → PReps K H xs ps → ∃ ks : List L2.Key, xs = ks.map kV ∧ Paired KRep ks ps
  | [], _, _, h => by cases h; exact ⟨[], rfl, .nil⟩
  | p :: ps, _, ha, h => by
    cases h with
    | cons a b =>
      rw [List.all_cons, Bool.and_eq_true] at ha
      obtain ⟨k, rfl, hk⟩ := key_of_prep ha.1 a
      obtain ⟨ks, rfl, hks⟩ := keys_of_preps ha.2 b
      exact ⟨k :: ks, rfl, .cons hk hks⟩
theorem KRep.inj {k l : L2.Key} {p q : P} (h : KRep k p) (h' : KRep l q) : k = l ↔ p = q := by
  cases h <;> cases h' <;> constructor <;> intro e <;> first | (cases e; rfl) | (injection e with e; first | (cases e; rfl) | (have := sOf_inj e; subst this; rfl)) | cases e
theorem krep_inj : ∀ {ks ls : List L2.Key} {ps qs : List P}, Paired KRep ks ps → Paired KRep ls qs → (ks = ls ↔ ps = qs)
  | _, _, _, _, .nil, .nil => ⟨fun _ => rfl, fun _ => rfl⟩
  | _, _, _, _, .nil, .cons _ _ => ⟨fun e => (nomatch e), fun e => (nomatch e)⟩
  | _, _, _, _, .cons _ _, .nil => ⟨fun e => (nomatch e), fun e => (nomatch e)⟩
  | _, _, _, _, .cons a b, .cons c d => by
    rw [List.cons.injEq, List.cons.injEq, a.inj c, krep_inj b d]
theorem TRep.inj {k l : List L2.Key} {p q : P} (h : TRep k p) (h' : TRep l q) : k = l ↔ p = q := by
  cases h with
  | mk a => cases h' with
    | mk b => rw [krep_inj a b]; exact ⟨fun e => by rw [e], fun e => by injection e⟩
abbrev DP (K : PySem.W.Frag) (H : Hp) {κ : Type} (R : κ → P → Prop) : List (κ × V) → List (P × P) → Prop := Paired fun x y => R x.1 y.1 ∧ PRep K H x.2 y.2
theorem DP.val {κ : Type} [DecidableEq κ] {R : κ → P → Prop} (inj : ∀ {k l p q}, R k p → R l q → (k = l ↔ p = q)) {k : κ} {p : P} (hk : R k p) : ∀ {kv : List (κ × V)} {kvs : List (P × P)}, DP K H R kv kvs →
    (∃ v q, valV kv k = some v ∧ getKV kvs p = some q ∧ PRep K H v q) ∨ (valV kv k = none ∧ getKV kvs p = none)
  | _, _, .nil => .inr ⟨rfl, rfl⟩
  | _, _, .cons (a := x) (b := y) h t => by
    by_cases e : x.1 = k
    · have e2 : y.1 = p := (inj h.1 hk).mp e
      exact .inl ⟨x.2, y.2, valV_pos e, by simp [getKV, List.find?_cons, e2], h.2⟩
    · have e2 : ¬ y.1 = p := fun z => e ((inj h.1 hk).mpr z)
      have g : ∀ l, getKV (y :: l) p = getKV l p := fun l => by simp [getKV, List.find?_cons, e2]
      rw [valV_neg e, g]
      exact DP.val inj hk t
theorem DP.any {κ : Type} [DecidableEq κ] {R : κ → P → Prop} (inj : ∀ {k l p q}, R k p → R l q → (k = l ↔ p = q)) {k : κ} {p : P} (hk : R k p) {kv : List (κ × V)} {kvs : List (P × P)} (h : DP K H R kv kvs) :
    (kv.any fun q => decide (q.1 = k)) = kvs.any fun q => decide (q.1 = p) := by
  induction h with
  | nil => rfl
  | @cons x y l m a t ih =>
    rw [List.any_cons, List.any_cons, ih]
    have : decide (x.1 = k) = decide (y.1 = p) := decide_eq_decide.mpr (inj a.1 hk)
    rw [this]
theorem DP.put {κ : Type} [DecidableEq κ] {R : κ → P → Prop} (inj : ∀ {k l p q}, R k p → R l q → (k = l ↔ p = q)) {k : κ} {p q : P} {v : V} (hk : R k p) (hv : PRep K H v q) {kv : List (κ × V)} {kvs : List (P × P)} (h : DP K H R kv kvs) :
    DP K H R (putK kv k v) (putKV kvs p q) := by
  unfold putK putKV
  rw [DP.any inj hk h]
  split
  · exact rep h
  · exact Paired.snoc h ⟨hk, hv⟩
where
  rep : ∀ {kv : List (κ × V)} {kvs : List (P × P)}, DP K H R kv kvs → DP K H R (kv.map fun x => if x.1 = k then (x.1, v) else x) (kvs.map fun y => if y.1 = p then (y.1, q) else y)
    | _, _, .nil => .nil
    | _, _, .cons (a := x) (b := y) a t => by
      rw [List.map_cons, List.map_cons]
      refine .cons ?_ (rep t)
      by_cases e : x.1 = k
      · rw [if_pos e, if_pos ((inj a.1 hk).mp e)]; exact ⟨a.1, hv⟩
      · rw [if_neg e, if_neg (fun z => e ((inj a.1 hk).mpr z))]; exact a
theorem DP.length {κ : Type} {R : κ → P → Prop} {kv : List (κ × V)} {kvs : List (P × P)} (h : DP K H R kv kvs) : kv.length = kvs.length := Paired.length h
/-- a key is looked up -/
theorem dget_of {t : Bool} {kvs : List (P × P)} {u v : V} {p : P} {F G : List Addr} (hd : Rep K H u (.dic t kvs) G) (hv : Rep K H v (.imm p) F) (hk : keyOk t p = true) :
    ∃ a o, u = .ref a ∧ DGet H a v o ∧ IsD H a ∧ ((∃ w q, o = some w ∧ getKV kvs p = some q ∧ PRep K H w q) ∨ (o = none ∧ getKV kvs p = none)) := by
  obtain ⟨hv, _⟩ := hv.imm_of
  cases hd with
  | @dicK a kv _ e r =>
    obtain ⟨k, rfl, hk⟩ := key_of_prep hk hv
    refine ⟨a, valV kv k, rfl, .inl ⟨kv, k, .inl e, rfl, rfl⟩, .inl ⟨kv, .inl e⟩, ?_⟩
    rcases DP.val KRep.inj hk r with ⟨w, q, h1, h2, h3⟩ | ⟨h1, h2⟩
    · exact .inl ⟨w, q, h1, h2, h3⟩
    · exact .inr ⟨h1, h2⟩
  | @dicT a kv _ e r =>
    cases hv <;> first | (cases hk; done) | skip
    rename_i b xs ps eb q
    obtain ⟨ks, rfl, hks⟩ := keys_of_preps hk q
    refine ⟨a, valV kv ks, rfl, .inr ⟨kv, ks, b, .inl e, rfl, eb, rfl⟩, .inr ⟨kv, .inl e⟩, ?_⟩
    rcases DP.val TRep.inj (TRep.mk hks) r with ⟨w, q, h1, h2, h3⟩ | ⟨h1, h2⟩
    · exact .inl ⟨w, q, h1, h2, h3⟩
    · exact .inr ⟨h1, h2⟩
end
end Sw
set_option maxHeartbeats 1000000
/-! Sw, part 5: more operators by values. -/
namespace Sw
open PySem PySem.Spec PyProof.Rows L2
section
variable {K : PySem.W.Frag} {H : Hp}
theorem sOf_app (a b : List Nat) : sOf a ++ sOf b = sOf (a ++ b) := by
  show Str.append (sOf a) (sOf b) = _
  simp [sOf, Str.append]
theorem chrOk_app {a b : List Nat} (h : chrOk a = true) (h' : chrOk b = true) : chrOk (a ++ b) = true := by
  unfold chrOk at *
  rw [List.all_append, h, h'] <;> rfl
theorem chrOk_sub {a b : List Nat} (h : chrOk a = true) (s : ∀ x ∈ b, x ∈ a) : chrOk b = true := by
  unfold chrOk at *
  rw [List.all_eq_true] at *
  exact fun x z => h x (s x z)
/-! ### + -/
def rAddD (K : PySem.W.Frag) : R2 := fun x y H Q => rI0 (fun i j => .int (i + j)) x y H Q ∨ (∃ i j, x = .str i ∧ y = .str j ∧ i.length + j.length ≤ sizeLine ∧ Q (.str (i ++ j)) H) ∨ rCatA K x y H Q ∨ rCat x y H Q
theorem op_addD {X : Cx} : OpR X (binaryOp .Add) (rAddD X.K) := op_add.or (op_add_str.or (op_catA.or op_cat))
theorem ok_add : OpOk K (r2n (rAddD K)) (opSem .add) := by
  intro vs ds H Q d pk h hQ
  match ds, pk, h with
  | [x, y], pk, h =>
    obtain ⟨v, u, F, G, rfl, r1, r2⟩ := pk.two
    have h : opAdd x y = some d := h
    refine ⟨v, u, rfl, ?_⟩
    unfold opAdd at h
    split at h
    · obtain rfl := ii_inv h
      obtain rfl := r1.int_of
      obtain rfl := r2.int_of
      exact .inl ⟨_, _, rfl, rfl, fin_imm (r := True) hQ (.int _)⟩
    · split at h
      · rename_i hl
        cases h
        obtain ⟨rfl, c1⟩ := r1.str_of
        obtain ⟨rfl, c2⟩ := r2.str_of
        refine .inr (.inl ⟨_, _, rfl, rfl, by rw [sOf_len, sOf_len]; exact le_line hl, ?_⟩)
        rw [sOf_app]
        exact fin_imm (r := True) hQ (.str _ (chrOk_app c1 c2))
      · cases h
    · split at h
      · rename_i hl
        cases h
        obtain ⟨a, xs, rfl, s1, q1⟩ := r1.tup_st
        obtain ⟨b, ys, rfl, s2, q2⟩ := r2.tup_st
        refine .inr (.inr (.inl ⟨a, b, xs, ys, rfl, rfl, SqT.of s1, SqT.of s2, by rw [q1.length, q2.length]; exact le_line hl, fun e => ?_, fun _ e => ?_, fun _ _ p hp => fin_tup hQ hp (q1.append q2)⟩))
        · subst e
          cases q1
          exact fin_imm (r := True) hQ (.tup s2 q2)
        · subst e
          cases q2
          rw [List.append_nil] at hQ
          exact fin_imm (r := True) hQ (.tup s1 q1)
      · cases h
    · split at h
      · rename_i hl
        cases h
        obtain ⟨a, xs, rfl, s1, q1, _⟩ := r1.lst_of
        obtain ⟨b, ys, rfl, s2, q2, _⟩ := r2.lst_of
        exact .inr (.inr (.inr ⟨a, b, xs, ys, rfl, rfl, s1, s2, by rw [q1.length, q2.length]; exact le_line hl, fun p hp => fin_lst hQ hp (q1.append q2)⟩))
      · cases h
    · cases h
/-! ### -, //, %, unary - -/
theorem int2_inv {f : Int → Int → Option D} {x y d : D} (h : int2 f x y = some d) : ∃ a b, x = .imm (.int a) ∧ y = .imm (.int b) ∧ f a b = some d := by
  unfold int2 at h
  split at h
  · exact ⟨_, _, rfl, rfl, h⟩
  · cases h
theorem int1_inv {f : Int → Option D} {x d : D} (h : int1 f x = some d) : ∃ a, x = .imm (.int a) ∧ f a = some d := by
  unfold int1 at h
  split at h
  · exact ⟨_, rfl, h⟩
  · cases h
/-- an op of two ints with a condition -/
theorem ok_int2 {o : Op} {f : Int → Int → Option D} {C : Int → Int → Prop} {g : Int → Int → P} {gv : Int → Int → V} (hs : ∀ x y, opSem o [x, y] = int2 f x y) (hs0 : opSem o [] = none) (hs1 : ∀ x, opSem o [x] = none) (hs3 : ∀ x y z r, opSem o (x :: y :: z :: r) = none)
    (hf : ∀ a b d, f a b = some d → C a b ∧ d = .imm (g a b)) (hg : ∀ (K : PySem.W.Frag) (H : Hp) a b, PRep K H (gv a b) (g a b)) : OpOk K (r2n (rI C gv)) (opSem o) := by
  intro vs ds H Q d pk h hQ
  match ds, pk, h with
  | [], _, h => rw [hs0] at h; cases h
  | [x], _, h => rw [hs1] at h; cases h
  | x :: y :: z :: r, _, h => rw [hs3] at h; cases h
  | [x, y], pk, h =>
    rw [hs] at h
    obtain ⟨v, u, F, G, rfl, r1, r2⟩ := pk.two
    obtain ⟨a, b, rfl, rfl, h⟩ := int2_inv h
    obtain ⟨hc, rfl⟩ := hf _ _ _ h
    obtain rfl := r1.int_of
    obtain rfl := r2.int_of
    exact ⟨_, _, rfl, _, _, rfl, rfl, hc, fin_imm (r := True) hQ (hg K H a b)⟩
theorem ok_int2' {o : Op} {f : Int → Int → Option D} {g : Int → Int → P} {gv : Int → Int → V} (hs : ∀ x y, opSem o [x, y] = int2 f x y) (hs0 : opSem o [] = none) (hs1 : ∀ x, opSem o [x] = none) (hs3 : ∀ x y z r, opSem o (x :: y :: z :: r) = none)
    (hf : ∀ a b d, f a b = some d → d = .imm (g a b)) (hg : ∀ (K : PySem.W.Frag) (H : Hp) a b, PRep K H (gv a b) (g a b)) : OpOk K (r2n (rI0 gv)) (opSem o) := by
  intro vs ds H Q d pk h hQ
  obtain ⟨x, y, e, i, j, h1, h2, _, q⟩ := ok_int2 (C := fun _ _ => True) hs hs0 hs1 hs3 (fun a b d h => ⟨trivial, hf a b d h⟩) hg vs ds H Q d pk h hQ
  exact ⟨x, y, e, i, j, h1, h2, q⟩
theorem ok_sub : OpOk K (r2n (rI0 fun i j => .int (i - j))) (opSem .sub) := ok_int2' (g := fun a b => .int (a - b)) (fun _ _ => rfl) rfl (fun _ => rfl) (fun _ _ _ _ => rfl) (fun a b d h => ii_inv h) fun _ _ _ _ => .int _
theorem ok_fdiv : OpOk K (r2n (rI CDivN fun i j => .int (i.fdiv j))) (opSem .fdiv) := ok_int2 (g := fun a b => .int (a.fdiv b)) (fun _ _ => rfl) rfl (fun _ => rfl) (fun _ _ _ _ => rfl) (fun a b d h => by
  by_cases c : b ≠ 0 ∧ b.natAbs < 1073741824
  · rw [if_pos c] at h; exact ⟨c, ii_inv h⟩
  · rw [if_neg c] at h; cases h) fun _ _ _ _ => .int _
theorem ok_mod : OpOk K (r2n (rI (fun _ j => j ≠ 0) fun i j => .int (i.fmod j))) (opSem .mod) := ok_int2 (g := fun a b => .int (a.fmod b)) (fun _ _ => rfl) rfl (fun _ => rfl) (fun _ _ _ _ => rfl) (fun a b d h => by
  by_cases c : b ≠ 0
  · rw [if_pos c] at h; exact ⟨c, ii_inv h⟩
  · rw [if_neg c] at h; cases h) fun _ _ _ _ => .int _
theorem ok_pow : OpOk K (r2n (rI CPow fun i j => .int (i ^ j.toNat))) (opSem .pow) := ok_int2 (g := fun a b => .int (a ^ b.toNat)) (fun _ _ => rfl) rfl (fun _ => rfl) (fun _ _ _ _ => rfl) (fun a b d h => by
  by_cases c : 0 ≤ b ∧ b ≤ 1000000 ∧ a.natAbs < 2 ^ 64
  · rw [if_pos c] at h; exact ⟨c, ii_inv h⟩
  · rw [if_neg c] at h; cases h) fun _ _ _ _ => .int _
theorem ok_xor : OpOk K (r2n (rI0 fun i j => .int (Builtin.bitXor i j))) (opSem .xor) := ok_int2' (g := fun i j => .int (Builtin.bitXor i j)) (fun _ _ => rfl) rfl (fun _ => rfl) (fun _ _ _ _ => rfl) (fun a b d h => ii_inv h) fun _ _ _ _ => .int _
theorem ok_isB : OpOk K (r2n rIsB) (opSem .isB) := by
  intro vs ds H Q d pk h hQ
  match ds, pk, h with
  | [x, y], pk, h =>
    obtain ⟨v, u, F, G, rfl, r1, r2⟩ := pk.two
    have h : isB2 false x y = some d := h
    unfold isB2 at h
    split at h
    · obtain rfl := r1.bl_of
      obtain rfl := r2.bl_of
      cases h
      exact ⟨_, _, rfl, _, _, rfl, rfl, fin_imm (r := True) hQ (.bl _)⟩
    · cases h
theorem ok_notB : OpOk K (r2n rNotB) (opSem .notB) := by
  intro vs ds H Q d pk h hQ
  match ds, pk, h with
  | [x, y], pk, h =>
    obtain ⟨v, u, F, G, rfl, r1, r2⟩ := pk.two
    have h : isB2 true x y = some d := h
    unfold isB2 at h
    split at h
    · obtain rfl := r1.bl_of
      obtain rfl := r2.bl_of
      cases h
      exact ⟨_, _, rfl, _, _, rfl, rfl, fin_imm (r := True) hQ (.bl _)⟩
    · cases h
theorem ok_min2 : OpOk K (r2n (rI0 fun i j => .int (if j < i then j else i))) (opSem .min2) := ok_int2' (g := fun i j => .int (if j < i then j else i)) (fun _ _ => rfl) rfl (fun _ => rfl) (fun _ _ _ _ => rfl) (fun a b d h => ii_inv h) fun _ _ _ _ => .int _
theorem ok_max2 : OpOk K (r2n (rI0 fun i j => .int (if j > i then j else i))) (opSem .max2) := ok_int2' (g := fun i j => .int (if j > i then j else i)) (fun _ _ => rfl) rfl (fun _ => rfl) (fun _ _ _ _ => rfl) (fun a b d h => ii_inv h) fun _ _ _ _ => .int _
theorem ok_int1 {o : Op} {f : Int → Option D} {g : Int → P} {gv : Int → V} (hs : ∀ x, opSem o [x] = int1 f x) (hs0 : opSem o [] = none) (hs3 : ∀ x y r, opSem o (x :: y :: r) = none)
    (hf : ∀ a d, f a = some d → d = .imm (g a)) (hg : ∀ (K : PySem.W.Frag) (H : Hp) a, PRep K H (gv a) (g a)) : OpOk K (r1n (rU gv)) (opSem o) := by
  intro vs ds H Q d pk h hQ
  match ds, pk, h with
  | [], _, h => rw [hs0] at h; cases h
  | x :: y :: r, _, h => rw [hs3] at h; cases h
  | [x], pk, h =>
    rw [hs] at h
    obtain ⟨v, F, rfl, r1⟩ := pk.one
    obtain ⟨a, rfl, h⟩ := int1_inv h
    obtain rfl := hf _ _ h
    obtain rfl := r1.int_of
    exact ⟨_, rfl, _, rfl, fin_imm (r := True) hQ (hg K H a)⟩
theorem ok_neg : OpOk K (r1n (rU fun i => .int (-i))) (opSem .neg) := ok_int1 (g := fun a => .int (-a)) (fun _ => rfl) rfl (fun _ _ _ => rfl) (fun a d h => ii_inv h) fun _ _ _ => .int _
theorem ok_abs : OpOk K (r1n (rU fun i => .int (if i < 0 then -i else i))) (opSem .abs) := ok_int1 (g := fun i => .int (if i < 0 then -i else i)) (fun _ => rfl) rfl (fun _ _ _ => rfl) (fun a d h => ii_inv h) fun _ _ _ => .int _
/-! ### * -/
def rMulS : R2 := fun x y H Q => ∃ (z : Str) (k : Int), x = .str z ∧ y = .int k ∧ -(2 ^ 62) ≤ k ∧ k < 2 ^ 62 ∧ z.length * k.toNat ≤ sizeLine ∧ Q (.str ⟨(List.replicate k.toNat z.cps.toList).flatten.toArray⟩) H
theorem foldl_cat (a : Array Nat) : ∀ (k : Nat) (acc : Array Nat), (List.replicate k a).foldl (· ++ ·) acc = acc ++ (List.replicate k a.toList).flatten.toArray
  | 0, acc => by simp
  | k + 1, acc => by
    rw [List.replicate_succ, List.foldl_cons, foldl_cat a k, List.replicate_succ, List.flatten_cons]
    apply Array.ext'
    simp
theorem op_mulS {X : Cx} : OpR X (binaryOp .Mult) rMulS := by
  intro pins s σ H x y v u Q I rx ry h
  obtain ⟨z, k, rfl, rfl, h1, h2, h3, q⟩ := h
  obtain ⟨t, rfl⟩ := rx
  obtain ⟨t', rfl⟩ := ry
  have e63 : (2 : Int) ^ 63 = 9223372036854775808 := by decide
  have e62 : (2 : Int) ^ 62 = 4611686018427387904 := by decide
  rw [e62] at h1 h2
  rw [sizeLine_is] at h3
  have hsz : z.length = z.cps.size := rfl
  have fin : ∀ k : Nat, (List.replicate k z.cps).foldl (· ++ ·) #[] = (List.replicate k z.cps.toList).flatten.toArray := fun k => by rw [foldl_cat]; simp
  refine PySem.P.mul_str (by rw [e63, decide_eq_false (by omega), decide_eq_false (by omega)] <;> rfl) (fun c1 c2 => ?_) (fun c1 c2 => ?_) ?_
  · rw [Bool.or_eq_false_iff] at c2
    obtain ⟨n, rfl⟩ := Int.eq_ofNat_of_zero_le (show 0 ≤ k by omega)
    rw [Int.toNat_natCast] at h3
    rw [e63]
    intro z2
    have hn : (0 : Int) < (n : Int) := by omega
    have h4 : ((z.length : Nat) : Int) * (n : Int) ≤ 16777216 := by
      rw [← Int.natCast_mul]
      omega
    have h5 : (9223372036854775808 - 1 : Int) / (n : Int) < (z.length : Int) := z2
    have h6 := (Int.ediv_lt_iff_lt_mul hn).mp h5
    omega
  · show decide (z.length * k.toNat > sizeLine) = false
    rw [sizeLine_is]
    exact decide_eq_false (by omega)
  · by_cases c1 : k < 1
    · rw [if_pos c1]
      have e : k.toNat = 0 := by omega
      rw [e] at q
      exact ⟨by decide, .str _, H, I.tok _, ⟨_, rfl⟩, q⟩
    · rw [if_neg c1]
      by_cases c2 : (k == 1 || z.length == 0) = true
      · rw [if_pos c2]
        refine ⟨.str z, H, I, ⟨t, rfl⟩, ?_⟩
        have e : (⟨(List.replicate k.toNat z.cps.toList).flatten.toArray⟩ : Str) = z := by
          rcases Bool.or_eq_true_iff.mp c2 with c | c
          · have e1 : k = 1 := eq_of_beq c
            subst e1
            cases z
            simp
          · have e1 : z.length = 0 := eq_of_beq c
            cases z with
            | mk cs =>
              have e2 : cs = #[] := Array.eq_empty_of_size_eq_zero e1
              subst e2
              simp
        rw [e] at q
        exact q
      · rw [if_neg c2, fin]
        refine ⟨?_, .str _, H, I.tok _, ⟨_, rfl⟩, q⟩
        show _ ≤ sizeLine
        rw [sizeLine_is]
        show (List.replicate k.toNat z.cps.toList).flatten.toArray.size ≤ _
        rw [List.size_toArray, PyProof.Rows.lm_len_rep_flat, Array.length_toList, Nat.mul_comm]
        exact h3
theorem tuple_mulS (l : Addr) (items : Array Value) (n : Nat) (dd : Option Addr) (sl : Array (Option Value)) (x : Int) (u : Tok) (c0 : (decide (x < -(2 ^ 63)) || decide (x ≥ 2 ^ 63)) = false) (c1 : (items.isEmpty || x == 1) = true) :
    Meets (Builtin.«tuple.__mul__» ⟨[.ref l, .int x u], []⟩) (fun _ R s => s.heap.get? l = some { cls := .type "tuple", dict := dd, data := .seq items n, slots := sl } ∧ R (.ok (.ret (Value.ref l))) s) :=
  .of_wp fun prog w A R s h => by
    obtain ⟨hp, g, d, tk, os⟩ := s
    obtain ⟨hl, h⟩ := h
    have f1 := AutoSeq1.idx_int
    wp_walk using AutoSeq1.wpAny_loadPart' hl
    repeat (first
      | (refine wpAny_ite_false (decide_eq_false (by rw [c0]; exact Bool.false_ne_true)) ?_; wp_walk using AutoSeq1.wpAny_loadPart' hl)
      | (refine wpAny_ite_true (decide_eq_true c1) ?_; wp_walk using AutoSeq1.wpAny_loadPart' hl))
    exact ⟨_, rfl, h⟩
theorem tuple_mulN (l : Addr) (items : Array Value) (n : Nat) (dd : Option Addr) (sl : Array (Option Value)) (x : Int) (u : Tok) (c0 : (decide (x < -(2 ^ 63)) || decide (x ≥ 2 ^ 63)) = false) (c1 : (items.isEmpty || x == 1) = false) (c2 : (decide (x ≤ 0) || items.isEmpty) = true) :
    Meets (Builtin.«tuple.__mul__» ⟨[.ref l, .int x u], []⟩) (fun _ R s => s.heap.get? l = some { cls := .type "tuple", dict := dd, data := .seq items n, slots := sl } ∧
      R (.ok (.ret (Value.ref s.heap.objs.size))) { s with heap := s.heap.push { cls := Value.type "tuple", data := Data.seq #[] }, toks := s.toks }) :=
  .of_wp fun prog w A R s h => by
    obtain ⟨hp, g, d, tk, os⟩ := s
    obtain ⟨hl, h⟩ := h
    have f1 := AutoSeq1.idx_int
    wp_walk using AutoSeq1.wpAny_loadPart' hl
    repeat (first
      | (refine wpAny_ite_false (decide_eq_false (by rw [c0]; exact Bool.false_ne_true)) ?_; wp_walk using AutoSeq1.wpAny_loadPart' hl)
      | (refine wpAny_ite_false (decide_eq_false (by rw [c1]; exact Bool.false_ne_true)) ?_; wp_walk using AutoSeq1.wpAny_loadPart' hl)
      | (refine wpAny_ite_true (decide_eq_true c2) ?_; wp_walk using AutoSeq1.wpAny_loadPart' hl))
    exact ⟨_, rfl, h⟩
/-- a tuple times an int -/
def rRepU (K : PySem.W.Frag) : R2 := fun x y H Q => ∃ l k xs, x = .ref l ∧ y = .int k ∧ SqT K H l xs ∧ -(2 ^ 62) ≤ k ∧ k < 2 ^ 62 ∧ xs.length * k.toNat ≤ sizeLine ∧ (xs = [] ∨ k = 1 → Q (.ref l) H) ∧
  (xs ≠ [] → k ≠ 1 → ∀ p, H p = none → Q (.ref p) (upd H p (.tup (List.replicate k.toNat xs).flatten)))
theorem op_repU {X : Cx} : OpR X (binaryOp .Mult) (rRepU X.K) := by
  intro pins s σ H x y v u Q I rx ry h
  obtain ⟨l, k, xs, rfl, rfl, hT, h1, h2, hz, q0, q⟩ := h
  cases rx
  obtain ⟨t, rfl⟩ := ry
  obtain ⟨its, r, ⟨⟨cls, dd, data, sl⟩, ho, hc, n, hd⟩, hs⟩ := I.tuple hT
  simp only at hc hd
  subst hc hd
  have e62 : (2 : Int) ^ 62 = 4611686018427387904 := by decide
  have e63 : (2 : Int) ^ 63 = 9223372036854775808 := by decide
  rw [e62] at h1 h2
  rw [sizeLine_is] at hz
  have hle : its.length = xs.length := r.length.symm
  have c0 : (decide (k < -(2 ^ 63)) || decide (k ≥ 2 ^ 63)) = false := by
    rw [e63, decide_eq_false (by omega), decide_eq_false (by omega)] <;> rfl
  refine wpAny_binaryOp_repeat_ref (T := "tuple") (U := "int") (by decide) ⟨_, ho, rfl⟩ (fun s' => typeIs_int s' k t) noFill_tuple_mul F.fills_int_mul F.slot_int_rmul repeat_tuple F.slot_int_index.lookup
    (call_meets F.slot_int_rmul (typeIs_int s k t) F.entry_int_rmul (F.args_int_rmul_2 _ _) (int_rmul_tuple k t l its.toArray n dd sl) ⟨ho, rfl, ⟨_, ho, rfl⟩, ?_⟩)
  have hem : its.toArray.isEmpty = true ↔ xs = [] := by
    constructor
    · intro e
      have : its = [] := by cases its with
        | nil => rfl
        | cons a b => cases e
      rw [this] at hle
      exact List.eq_nil_of_length_eq_zero hle.symm
    · intro e
      rw [e] at hle
      have : its = [] := List.eq_nil_of_length_eq_zero hle
      rw [this] <;> rfl
  by_cases c1 : (its.toArray.isEmpty || k == 1) = true
  · refine call_meets F.slot_tuple_mul ⟨_, ho, rfl⟩ F.entry_tuple_mul (F.args_tuple_mul_2 _ _) (tuple_mulS l its.toArray n dd sl k t c0 c1) ⟨ho, ?_⟩
    refine ⟨.ref l, H, I, rfl, q0 ?_⟩
    rcases Bool.or_eq_true_iff.mp c1 with c | c
    · exact .inl (hem.mp c)
    · exact .inr (eq_of_beq c)
  · have c1 : (its.toArray.isEmpty || k == 1) = false := by simpa using c1
    have c1' := c1
    rw [Bool.or_eq_false_iff] at c1'
    have hne : xs ≠ [] := fun e => by rw [hem.mpr e] at c1'; cases c1'.1
    have hk1 : k ≠ 1 := by simpa using c1'.2
    have q := q hne hk1
    by_cases c2 : k ≤ 0
    · refine call_meets F.slot_tuple_mul ⟨_, ho, rfl⟩ F.entry_tuple_mul (F.args_tuple_mul_2 _ _) (tuple_mulN l its.toArray n dd sl k t c0 c1 (by rw [decide_eq_true c2] <;> rfl)) ⟨ho, ?_⟩
      have e : k.toNat = 0 := by omega
      rw [e] at q
      exact ⟨.ref s.heap.objs.size, _, I.laid (t' := s.toks) (o := .tup []) (fun b ob q => Heap.get?_push_of_some _ q) (Nat.le_refl _) ⟨Nat.zero_le _, [], .nil, IsTup.new _ _⟩, rfl, q _ (I.hok.fresh (Nat.le_refl _))⟩
    · obtain ⟨m, rfl⟩ := Int.eq_ofNat_of_zero_le (show 0 ≤ k by omega)
      rw [Int.toNat_natCast] at hz q
      have hprod : ((its.toArray.size : Nat) : Int) * (m : Int) ≤ 16777216 := by
        rw [List.size_toArray, hle, ← Int.natCast_mul]
        omega
      have c4 : Builtin.Tuple.tupleTooMany (((its.toArray.size : Nat) : Int) * (m : Int)) = false := by
        unfold Builtin.Tuple.tupleTooMany
        rw [sizeLine_is]
        exact decide_eq_false (by omega)
      have flen : (List.replicate m its).flatten.length ≤ 16777216 := by
        rw [PyProof.Rows.lm_len_rep_flat, hle, Nat.mul_comm]
        exact hz
      refine call_meets F.slot_tuple_mul ⟨_, ho, rfl⟩ F.entry_tuple_mul (F.args_tuple_mul_2 _ _) (tuple_mulW l its.toArray n dd sl m t c0 c1 (by rw [c1'.1, Bool.or_false]; exact decide_eq_false c2) (by rw [e63]; omega) c4 (by rw [Int.toNat_natCast, size_rep, List.size_toArray, sizeLine_is]; exact flen)) ⟨ho, ?_⟩
      rw [Int.toNat_natCast, size_rep]
      refine ⟨.ref s.heap.objs.size, _, I.laid (t' := s.toks) (o := .tup (List.replicate m xs).flatten) (fun b ob q => Heap.get?_push_of_some _ q) (Nat.le_refl _) ?_, rfl, q _ (I.hok.fresh (Nat.le_refl _))⟩
      exact ⟨by rw [PyProof.Rows.lm_len_rep_flat, sizeLine_is, Nat.mul_comm]; exact hz, _, r.rep m, IsTup.new _ _⟩
def rMulD (K : PySem.W.Frag) : R2 := fun x y H Q => rI CMul (fun i j => .int (i * j)) x y H Q ∨ rMulS x y H Q ∨ rRep x y H Q ∨ rRepU K x y H Q
theorem op_mulD {X : Cx} : OpR X (binaryOp .Mult) (rMulD X.K) := op_mul.or (op_mulS.or (op_rep.or op_repU))
theorem rept_mem {α : Type} {xs : List α} {k : Int} : ∀ x ∈ rept xs k, x ∈ xs := fun x h => by
  unfold rept at h
  rw [List.mem_flatten] at h
  obtain ⟨l, h1, h2⟩ := h
  obtain ⟨_, rfl⟩ := List.mem_replicate.mp h1
  exact h2
theorem ok_mul : OpOk K (r2n (rMulD K)) (opSem .mul) := by
  intro vs ds H Q d pk h hQ
  match ds, pk, h with
  | [x, y], pk, h =>
    obtain ⟨v, u, F, G, rfl, r1, r2⟩ := pk.two
    have h : opMul x y = some d := h
    refine ⟨v, u, rfl, ?_⟩
    unfold opMul at h
    split at h
    · split at h
      · rename_i c
        obtain rfl := ii_inv h
        obtain rfl := r1.int_of
        obtain rfl := r2.int_of
        refine .inl ⟨_, _, rfl, rfl, ?_, fin_imm (r := True) hQ (.int _)⟩
        unfold mulOk at c
        rcases Bool.or_eq_true_iff.mp c with c | c
        · exact .inl (of_decide_eq_true c)
        · exact .inr (of_decide_eq_true c)
      · cases h
    · split at h
      · rename_i c
        cases h
        obtain ⟨rfl, c1⟩ := r1.str_of
        obtain rfl := r2.int_of
        refine .inr (.inl ⟨_, _, rfl, rfl, c.1, c.2.1, by rw [sOf_len]; exact le_line c.2.2, ?_⟩)
        have e : (⟨(List.replicate (Int.toNat ‹Int›) (sOf ‹List Nat›).cps.toList).flatten.toArray⟩ : Str) = sOf (rept ‹List Nat› ‹Int›) := by
          rw [sOf_cps] <;> rfl
        rw [e]
        exact fin_imm (r := True) hQ (.str _ (chrOk_sub c1 rept_mem))
      · cases h
    · split at h
      · rename_i c
        cases h
        obtain ⟨a, xs, rfl, s1, q1, _⟩ := r1.lst_of
        obtain rfl := r2.int_of
        have e62 : (2 : Int) ^ 62 = 4611686018427387904 := by decide
        have e63 : (2 : Int) ^ 63 = 9223372036854775808 := by decide
        rw [e62] at c
        refine .inr (.inr (.inl ⟨a, _, xs, rfl, rfl, s1, by rw [e63]; omega, by rw [e63]; omega, by rw [q1.length]; exact le_line c.2.2, fun p hp => fin_lst hQ hp (q1.rep _)⟩))
      · cases h
    · split at h
      · rename_i c
        cases h
        obtain ⟨a, xs, rfl, s1, q1⟩ := r1.tup_st
        obtain rfl := r2.int_of
        refine .inr (.inr (.inr ⟨a, _, xs, rfl, rfl, SqT.of s1, c.1, c.2.1, by rw [q1.length]; exact le_line c.2.2, fun e => ?_, fun _ _ p hp => fin_tup hQ hp (q1.rep _)⟩))
        rcases e with e | e
        · subst e
          cases q1
          refine fin_imm (r := True) hQ ?_
          have : ∀ n : Nat, (List.replicate n ([] : List P)).flatten = [] := fun n => by induction n with
            | zero => rfl
            | succ n ih => rw [List.replicate_succ, List.flatten_cons, ih] <;> rfl
          unfold rept
          rw [this]
          exact .tup s1 .nil
        · subst e
          refine fin_imm (r := True) hQ ?_
          have : rept ‹List P› (1 : Int) = ‹List P› := by
            unfold rept
            show (List.replicate 1 _).flatten = _
            simp
          rw [this]
          exact .tup s1 q1
      · cases h
    · cases h
end
end Sw
set_option maxHeartbeats 1000000
/-! Sw, part 6: more operators by values. -/
namespace Sw
open PySem PySem.Spec PyProof.Rows L2
section
variable {K : PySem.W.Frag} {H : Hp}
/-! ### items -/
theorem atP_eq {α : Type} (xs : List α) (i : Int) : atP xs i = L2.atI xs i := rfl
theorem ixP_eq (n : Nat) (i : Int) : ixP n i = L2.ixN n i := rfl
theorem PReps.at_ {vs : List V} {ps : List P} {i : Int} {p : P} (h : PReps K H vs ps) (e : atP ps i = some p) : ∃ v, L2.atI vs i = some v ∧ PRep K H v p := by
  unfold atP at e
  obtain ⟨j, h1, h2⟩ := bind_some e
  obtain ⟨v, g1, g2⟩ := h.get h2
  refine ⟨v, ?_, g2⟩
  unfold L2.atI
  rw [h.length, ← ixP_eq, h1]
  exact g1
def rIxD (K : PySem.W.Frag) : R2 := fun x y H Q => rIx K x y H Q ∨ ∃ a v, x = .ref a ∧ DGet H a y (some v) ∧ Q v H
theorem ix_dict {X : Cx} (hu : X.A.units + 64 < cLine) : IxR X (fun x y H Q => ∃ a v, x = .ref a ∧ DGet H a y (some v) ∧ Q v H) := by
  intro value slice pins s σ H x y v u Q I rx ry h hsub
  obtain ⟨a, w, rfl, g, q⟩ := h
  obtain rfl : v = Value.ref a := rx
  have hT := dict_typeIs I g
  unfold subscriptTail
  refine wpAny_bind ?_
  rw [getitemInPython_of_ne hT.not_modules]
  refine wpAny_bind (wpAny_specialOf hT PySem.F.slot_dict_getitem.lookup ?_)
  have fin : wpAny (model X.prog X.w) X.A (subscripted slice false (.ref a) u) (fun r s₃ => wpAny (model X.prog X.w) X.A (letTemporaryGo value (.ref a) r >>= fun _ => pure r) (EP X pins σ Q) X.xe s₃) X.xe s := by
    rw [hsub]
    exact wpAny_operating (d_getItem (by omega) I g ry fun w' s' I' rw' => wpAny_bind (wpAny_letTemporaryGo (wpAny_pure ⟨w, H, I', rw', q⟩)))
  first
    | exact wpAny_pure (wpAny_bind fin)
    | exact wpAny_bind (wpAny_pure (wpAny_bind fin))
    | exact wpAny_bind fin
theorem ix_seqD {X : Cx} (hu : X.A.units + 64 < cLine) : IxR X (rIxD X.K) := ix_seq.or (ix_dict hu)
theorem ok_idx : OpOk K (r2n (rIxD K)) (opSem .idx) := by
  intro vs ds H Q d pk h hQ
  match ds, pk, h with
  | [x, y], pk, h =>
    obtain ⟨v, u, F, G, rfl, r1, r2⟩ := pk.two
    have h : opIdx x y = some d := h
    refine ⟨v, u, rfl, ?_⟩
    unfold opIdx at h
    split at h
    · split at h
      · rename_i c
        obtain ⟨a, h1, h2⟩ := bind_some h
        cases h2
        obtain ⟨rfl, c1⟩ := r1.str_of
        obtain rfl := r2.int_of
        refine .inl (.inr (.inr ⟨_, _, a, rfl, rfl, by rw [sOf_len]; exact le_line c, by rw [sOf_cps]; exact h1, fin_imm (r := True) hQ (.str [a] ?_)⟩))
        unfold atP at h1
        obtain ⟨j, _, h3⟩ := bind_some h1
        exact chrOk_sub c1 fun x z => by rw [List.mem_singleton.mp z]; exact List.mem_of_getElem? h3
      · cases h
    · obtain ⟨a, h1, h2⟩ := bind_some h
      cases h2
      obtain ⟨b, xs, rfl, s1, q1⟩ := r1.tup_of
      obtain rfl := r2.int_of
      obtain ⟨v, g1, g2⟩ := q1.at_ h1
      exact .inl (.inr (.inl ⟨b, xs, _, v, rfl, rfl, s1, g1, fin_imm (r := True) hQ g2⟩))
    · obtain ⟨a, h1, h2⟩ := bind_some h
      cases h2
      obtain ⟨b, xs, rfl, s1, q1⟩ := r1.flst_of
      obtain rfl := r2.int_of
      obtain ⟨v, g1, g2⟩ := q1.at_ h1
      exact .inl (.inl ⟨b, xs, _, v, rfl, rfl, s1.sql, g1, fin_imm (r := True) hQ g2⟩)
    · obtain ⟨a, h1, h2⟩ := bind_some h
      cases h2
      obtain ⟨b, xs, rfl, s1, q1, _⟩ := r1.lst_of
      obtain rfl := r2.int_of
      obtain ⟨v, g1, g2⟩ := q1.at_ h1
      exact .inl (.inl ⟨b, xs, _, v, rfl, rfl, SqL.of s1, g1, fin_imm (r := True) hQ g2⟩)
    · split at h
      · rename_i c
        obtain ⟨q, h1, h2⟩ := bind_some h
        cases h2
        obtain ⟨a, o, rfl, g1, _, ⟨w, q', rfl, h3, h4⟩ | ⟨_, h3⟩⟩ := dget_of r1 r2 c
        · rw [h1] at h3
          cases h3
          exact .inr ⟨a, w, rfl, g1, fin_imm (r := True) hQ h4⟩
        · rw [h1] at h3; cases h3
      · cases h
    · cases h
/-! ### <, <=, >, >= -/
def rCmpD (f : Int → Int → Bool) (g : List Nat → List Nat → Bool) : R2 := fun x y H Q => rI0 (fun i j => .bl (f i j)) x y H Q ∨ (∃ i j, x = .str i ∧ y = .str j ∧ Q (.bl (g i.cps.toList j.cps.toList)) H)
theorem op_ltD {X : Cx} : OpR X (compareOp .Lt) (rCmpD (fun i j => decide (i < j)) fun a b => decide (a < b)) := op_lt.or op_lt_str
theorem op_leD {X : Cx} : OpR X (compareOp .LtE) (rCmpD (fun i j => decide (i ≤ j)) fun a b => !decide (b < a)) := op_le.or op_le_str
theorem op_gtD {X : Cx} : OpR X (compareOp .Gt) (rCmpD (fun i j => decide (j < i)) fun a b => decide (b < a)) := op_gt.or op_gt_str
theorem op_geD {X : Cx} : OpR X (compareOp .GtE) (rCmpD (fun i j => decide (j ≤ i)) fun a b => !decide (a < b)) := op_ge.or op_ge_str
theorem ok_cmpI {o : Op} {f : Int → Int → Bool} {g : List Nat → List Nat → Bool} (hs : ∀ x y, opSem o [x, y] = opCmpI f g x y) (hs0 : opSem o [] = none) (hs1 : ∀ x, opSem o [x] = none) (hs3 : ∀ x y z r, opSem o (x :: y :: z :: r) = none) : OpOk K (r2n (rCmpD f g)) (opSem o) := by
  intro vs ds H Q d pk h hQ
  match ds, pk, h with
  | [], _, h => rw [hs0] at h; cases h
  | [x], _, h => rw [hs1] at h; cases h
  | x :: y :: z :: r, _, h => rw [hs3] at h; cases h
  | [x, y], pk, h =>
    rw [hs] at h
    obtain ⟨v, u, F, G, rfl, r1, r2⟩ := pk.two
    refine ⟨v, u, rfl, ?_⟩
    unfold opCmpI at h
    split at h
    · obtain rfl := ib_inv h
      obtain rfl := r1.int_of
      obtain rfl := r2.int_of
      exact .inl ⟨_, _, rfl, rfl, fin_imm (r := True) hQ (.bl _)⟩
    · obtain rfl := ib_inv h
      obtain ⟨rfl, c1⟩ := r1.str_of
      obtain ⟨rfl, c2⟩ := r2.str_of
      refine .inr ⟨_, _, rfl, rfl, ?_⟩
      rw [sOf_cps, sOf_cps]
      exact fin_imm (r := True) hQ (.bl _)
    · cases h
theorem ok_lt : OpOk K (r2n (rCmpD (fun i j => decide (i < j)) fun a b => decide (a < b))) (opSem .lt) := ok_cmpI (fun _ _ => rfl) rfl (fun _ => rfl) fun _ _ _ _ => rfl
theorem ok_le : OpOk K (r2n (rCmpD (fun i j => decide (i ≤ j)) fun a b => !decide (b < a))) (opSem .le) := ok_cmpI (fun _ _ => rfl) rfl (fun _ => rfl) fun _ _ _ _ => rfl
theorem ok_gt : OpOk K (r2n (rCmpD (fun i j => decide (j < i)) fun a b => decide (b < a))) (opSem .gt) := ok_cmpI (fun _ _ => rfl) rfl (fun _ => rfl) fun _ _ _ _ => rfl
theorem ok_ge : OpOk K (r2n (rCmpD (fun i j => decide (j ≤ i)) fun a b => !decide (a < b))) (opSem .ge) := ok_cmpI (fun _ _ => rfl) rfl (fun _ => rfl) fun _ _ _ _ => rfl
/-! ### is None -/
theorem Rep.non_iff {v : V} {d : D} {F : List Addr} (h : Rep K H v d F) : decide (v = .non) = decide (d = .imm .non) := by
  cases h with
  | imm r => cases r <;> simp
  | lst e r => simp
  | dicK e r => simp
  | dicT e r => simp
theorem ok_isN : OpOk K (r1n fun x H Q => Q (.bl (decide (x = .non))) H) (opSem .isN) := by
  intro vs ds H Q d pk h hQ
  match ds, pk, h with
  | [x], pk, h =>
    obtain ⟨v, F, rfl, r1⟩ := pk.one
    obtain rfl := ib_inv (show ib (decide (x = .imm .non)) = some d from h)
    refine ⟨v, rfl, ?_⟩
    show Q (.bl (decide (v = .non))) H
    rw [r1.non_iff]
    exact fin_imm (r := True) hQ (.bl _)
theorem ok_notN : OpOk K (r1n fun x H Q => Q (.bl (!decide (x = .non))) H) (opSem .notN) := by
  intro vs ds H Q d pk h hQ
  match ds, pk, h with
  | [x], pk, h =>
    obtain ⟨v, F, rfl, r1⟩ := pk.one
    obtain rfl := ib_inv (show ib (!decide (x = .imm .non)) = some d from h)
    refine ⟨v, rfl, ?_⟩
    show Q (.bl (!decide (v = .non))) H
    rw [r1.non_iff]
    exact fin_imm (r := True) hQ (.bl _)
/-! ### in, not in -/
theorem subAt_iff (x y : List Nat) (i : Nat) : (i + (sOf y).length ≤ (sOf x).length ∧ Builtin.Str.subAt (sOf x) (sOf y) i = true) ↔ (y.isPrefixOf (x.drop i) = true ∧ i ≤ x.length) := by
  rw [sOf_len, sOf_len]
  have e : Builtin.Str.subAt (sOf x) (sOf y) i = ((x.drop i).take y.length == y) := by
    unfold Builtin.Str.subAt
    rw [sOf_len]
    simp [sOf, PySem.StrLaws.subAt_eq]
  rw [e, List.isPrefixOf_iff_prefix, beq_iff_eq]
  constructor
  · rintro ⟨h1, h2⟩
    refine ⟨?_, by omega⟩
    rw [← h2]
    exact List.take_prefix _ _
  · rintro ⟨h1, h2⟩
    have h3 := h1.length_le
    rw [List.length_drop] at h3
    exact ⟨by omega, (List.prefix_iff_eq_take.mp h1).symm⟩
theorem findAt_iff (y : List Nat) : ∀ (x : List Nat) (n : Nat), (findAt y x n).isSome = true ↔ ∃ i, y.isPrefixOf (x.drop i) = true ∧ i ≤ x.length
  | [], n => by
    unfold findAt
    constructor
    · intro h
      split at h
      · rename_i c
        exact ⟨0, by cases y with | nil => rfl | cons a b => simp at c, Nat.le_refl _⟩
      · cases h
    · rintro ⟨i, h1, h2⟩
      rw [List.drop_nil] at h1
      cases y with
      | nil => rfl
      | cons a b => simp at h1
  | x :: xs, n => by
    unfold findAt
    by_cases c : y.isPrefixOf (x :: xs) = true
    · rw [if_pos c]
      exact ⟨fun _ => ⟨0, c, Nat.zero_le _⟩, fun _ => rfl⟩
    · rw [if_neg c, findAt_iff y xs (n + 1)]
      constructor
      · rintro ⟨i, h1, h2⟩
        exact ⟨i + 1, h1, by simp only [List.length_cons]; omega⟩
      · rintro ⟨i, h1, h2⟩
        cases i with
        | zero => exact absurd h1 c
        | succ i => exact ⟨i, h1, by simp only [List.length_cons] at h2; omega⟩
theorem found_eq (y x : List Nat) : (!(Builtin.Str.occurrences (sOf x) (sOf y) 0 (sOf x).length 1).isEmpty) = (findAt y x 0).isSome := by
  rw [Bool.eq_iff_iff, PySem.StrLaws.found_iff, findAt_iff]
  exact exists_congr fun i => subAt_iff x y i
def rInP (K : PySem.W.Frag) (b : Bool) : R2 := fun x y H Q => (∃ a o, y = .ref a ∧ DGet H a x o ∧ Q (.bl (xor b o.isSome)) H) ∨ (∃ i j, x = .str i ∧ y = .str j ∧ Q (.bl (xor b (!(Builtin.Str.occurrences j i 0 j.length 1).isEmpty))) H) ∨
  ∃ d ds, Dp K H x d ∧ (Dp K H y (.list ds) ∨ Dp K H y (.tuple ds)) ∧ PyData.canLayAll0 ds = true ∧ d.canLay0 = true ∧ min (PyData.depthAll ds) d.depth ≤ 50 ∧ Q (.bl (xor b (ds.any fun z => PyData.eqv z d))) H
theorem op_inP {X : Cx} (hu : X.A.units + 64 < cLine) : OpR X (compareOp .In) (rInP X.K false) := by
  intro pins s σ H x y v u Q I rx ry h
  rcases h with ⟨a, o, rfl, g, q⟩ | h | ⟨d, ds, hd, he, sd, se, hm, q⟩
  · simp only [Bool.false_xor] at q
    obtain rfl : u = Value.ref a := ry
    exact d_in (by omega) I g rx fun s' I' => ⟨.bl _, H, I', rfl, q⟩
  · simp only [Bool.false_xor] at h
    exact op_in_str pins s σ H x y v u Q I rx ry h
  · simp only [Bool.false_xor] at q
    obtain ⟨as, r1⟩ := Dp.reads I d x v hd rx
    rcases he with he | he
    · obtain ⟨bs, r2⟩ := Dp.reads I (.list ds) y u he ry
      exact SeqAt.in_list_reads r2 r1 sd se (by omega) ⟨.bl _, H, I, rfl, q⟩
    · obtain ⟨bs, r2⟩ := Dp.reads I (.tuple ds) y u he ry
      exact SeqAt.in_tuple_reads r2 r1 sd se (by omega) ⟨.bl _, H, I, rfl, q⟩
theorem op_notInP {X : Cx} (hu : X.A.units + 64 < cLine) : OpR X (compareOp .NotIn) (rInP X.K true) := by
  intro pins s σ H x y v u Q I rx ry h
  rcases h with ⟨a, o, rfl, g, q⟩ | h | ⟨d, ds, hd, he, sd, se, hm, q⟩
  · simp only [Bool.true_xor] at q
    obtain rfl : u = Value.ref a := ry
    exact d_notIn (by omega) I g rx fun s' I' => ⟨.bl _, H, I', rfl, q⟩
  · simp only [Bool.true_xor] at h
    exact L2.op_notIn_str pins s σ H x y v u Q I rx ry h
  · simp only [Bool.true_xor] at q
    obtain ⟨as, r1⟩ := Dp.reads I d x v hd rx
    rcases he with he | he
    · obtain ⟨bs, r2⟩ := Dp.reads I (.list ds) y u he ry
      exact SeqAt.notIn_list_reads r2 r1 sd se (by omega) ⟨.bl _, H, I, rfl, q⟩
    · obtain ⟨bs, r2⟩ := Dp.reads I (.tuple ds) y u he ry
      exact SeqAt.notIn_tuple_reads r2 r1 sd se (by omega) ⟨.bl _, H, I, rfl, q⟩
theorem any_py (p : P) : ∀ ps : List P, ((toPys ps).any fun z => PyData.eqv z (toPy p)) = ps.any fun z => peq z p
  | [] => rfl
  | q :: ps => by rw [toPys, List.any_cons, List.any_cons, any_py p ps, eqv_py]
theorem in_inv {b : Bool} {x y : D} {v u : V} {F G : List Addr} {k : Bool} {Q : VK} (r1 : Rep K H v x F) (r2 : Rep K H u y G) (h : opIn x y = some k)
    (hQ : ∀ v H' F, Same H H' → Rep K H' v (.imm (.bl (xor b k))) F → (∀ a ∈ F, H a = none) → F.Nodup → Q v H') : rInP K b v u H Q := by
  unfold opIn at h
  split at h
  · cases h
    obtain ⟨rfl, c1⟩ := r1.str_of
    obtain ⟨rfl, c2⟩ := r2.str_of
    refine .inr (.inl ⟨_, _, rfl, rfl, ?_⟩)
    rw [found_eq]
    exact fin_imm (r := True) hQ (.bl _)
  · split at h
    · rename_i c
      cases h
      obtain ⟨q1, _⟩ := r1.imm_of
      obtain ⟨q2, _⟩ := r2.imm_of
      refine .inr (.inr ⟨toPy _, toPys _, q1.dp, .inr q2.dp, by have := q2.lay; simpa [toPy, PyData.canLay0] using this, q1.lay, by rw [depth_py, depths_py]; exact c, ?_⟩)
      rw [any_py]
      exact fin_imm (r := True) hQ (.bl _)
    · cases h
  · split at h
    · rename_i c
      cases h
      obtain ⟨q1, _⟩ := r1.imm_of
      obtain ⟨q2, _⟩ := r2.imm_of
      refine .inr (.inr ⟨toPy _, toPys _, q1.dp, .inl q2.dp, by have := q2.lay; simpa [toPy, PyData.canLay0] using this, q1.lay, by rw [depth_py, depths_py]; exact c, ?_⟩)
      rw [any_py]
      exact fin_imm (r := True) hQ (.bl _)
    · cases h
  · split at h
    · rename_i c
      cases h
      obtain ⟨q1, _⟩ := r1.imm_of
      refine .inr (.inr ⟨toPy _, toPys _, q1.dp, .inl (r2.dp rfl), by have := r2.lay rfl; simpa [rd, toPy, PyData.canLay0] using this, q1.lay, by rw [depth_py, depths_py]; exact c, ?_⟩)
      rw [any_py]
      exact fin_imm (r := True) hQ (.bl _)
    · cases h
  · split at h
    · rename_i c
      cases h
      obtain ⟨a, o, rfl, g1, _, g2⟩ := dget_of r2 r1 c
      refine .inl ⟨a, o, rfl, g1, ?_⟩
      rcases g2 with ⟨w, q', rfl, h3, h4⟩ | ⟨rfl, h3⟩
      · rw [h3] at hQ
        exact fin_imm (r := True) hQ (.bl _)
      · rw [h3] at hQ
        exact fin_imm (r := True) hQ (.bl _)
    · cases h
  · cases h
theorem ok_isin : OpOk K (r2n (rInP K false)) (opSem .isin) := by
  intro vs ds H Q d pk h hQ
  match ds, pk, h with
  | [x, y], pk, h =>
    obtain ⟨v, u, F, G, rfl, r1, r2⟩ := pk.two
    obtain ⟨k, h1, h2⟩ := bind_some (show (opIn x y).bind ib = some d from h)
    obtain rfl := ib_inv h2
    exact ⟨v, u, rfl, in_inv r1 r2 h1 (by simpa using hQ)⟩
theorem ok_notin : OpOk K (r2n (rInP K true)) (opSem .notin) := by
  intro vs ds H Q d pk h hQ
  match ds, pk, h with
  | [x, y], pk, h =>
    obtain ⟨v, u, F, G, rfl, r1, r2⟩ := pk.two
    obtain ⟨k, h1, h2⟩ := bind_some (show (opIn x y).bind (fun b => ib (!b)) = some d from h)
    obtain rfl := ib_inv h2
    exact ⟨v, u, rfl, in_inv r1 r2 h1 (by simpa using hQ)⟩
end
end Sw
set_option maxHeartbeats 1000000
/-! Sw, part 7: built-ins by values. -/
namespace Sw
open PySem PySem.Spec PyProof.Rows L2
section
variable {K : PySem.W.Frag} {H : Hp}
/-! ### len -/
def rLenD (K : PySem.W.Frag) : List V → Hp → VK → Prop := fun xs H Q => (∃ x n, xs = [x] ∧ LenV K x H n ∧ Q (.int n) H) ∨ (∃ a kvs, xs = [V.ref a] ∧ H a = some (.dK kvs) ∧ Q (.int kvs.length) H) ∨ rLenT xs H Q
theorem cr_lenD {X : Cx} : CallR X (.builtin "len") (rLenD X.K) := CallR.or call_len (CallR.or call_lenD call_len_dT)
theorem ok_len : OpOk K (rLenD K) (opSem .len) := by
  intro vs ds H Q d pk h hQ
  match ds, pk, h with
  | [x], pk, h =>
    obtain ⟨v, F, rfl, r1⟩ := pk.one
    have h : opLen x = some d := h
    unfold opLen at h
    split at h
    · split at h
      · rename_i c
        obtain rfl := ii_inv h
        obtain ⟨rfl, c1⟩ := r1.str_of
        refine .inl ⟨_, (sOf _).length, rfl, ⟨by rw [sOf_len]; exact le_line c, rfl⟩, ?_⟩
        rw [sOf_len]
        exact fin_imm (r := True) hQ (.int _)
      · cases h
    · obtain rfl := ii_inv h
      obtain ⟨a, xs, rfl, s1, q1⟩ := r1.tup_of
      refine .inl ⟨_, xs.length, rfl, .inr ⟨xs, s1, rfl⟩, ?_⟩
      rw [q1.length]
      exact fin_imm (r := True) hQ (.int _)
    · obtain rfl := ii_inv h
      obtain ⟨a, xs, rfl, s1, q1⟩ := r1.flst_of
      refine .inl ⟨_, xs.length, rfl, .inl ⟨xs, s1.sql, rfl⟩, ?_⟩
      rw [q1.length]
      exact fin_imm (r := True) hQ (.int _)
    · obtain rfl := ii_inv h
      obtain ⟨a, xs, rfl, s1, q1, _⟩ := r1.lst_of
      refine .inl ⟨_, xs.length, rfl, .inl ⟨xs, SqL.of s1, rfl⟩, ?_⟩
      rw [q1.length]
      exact fin_imm (r := True) hQ (.int _)
    · obtain rfl := ii_inv h
      cases r1 with
      | @dicK a kv _ e r =>
        refine .inr (.inl ⟨a, kv, rfl, e, ?_⟩)
        rw [DP.length r]
        exact fin_imm (r := True) hQ (.int _)
      | @dicT a kv _ e r =>
        refine .inr (.inr ⟨a, kv, rfl, e, ?_⟩)
        rw [DP.length r]
        exact fin_imm (r := True) hQ (.int _)
    · cases h
/-! ### list(x), tuple(x) -/
def rListS : List V → Hp → VK → Prop := fun xs H Q => ∃ z : Str, xs = [.str z] ∧ z.length ≤ sizeLine ∧ ∀ l, H l = none → Q (.ref l) (upd H l (.lst (z.cps.toList.map fun c => .str ⟨#[c]⟩)))
theorem vals_of_items : ∀ {xs : List V} {its : List Value}, xs.length = its.length → (∀ (i : Nat) (v : Value), its[i]? = some v → ∃ x, xs[i]? = some x ∧ RelV x v) → Vals xs its
  | [], [], _, _ => .nil
  | [], _ :: _, h, _ => by simp at h
  | _ :: _, [], h, _ => by simp at h
  | x :: xs, v :: its, h, f => by
    obtain ⟨y, h1, h2⟩ := f 0 v rfl
    simp at h1
    subst h1
    exact .cons h2 (vals_of_items (by simpa using h) fun i u e => by simpa using f (i + 1) u (by simpa using e))
theorem vals_signs {x : Str} {acc : Array Value} (h : ItemsOf (SignAt x) acc x.cps.size) : Vals (x.cps.toList.map fun c => .str ⟨#[c]⟩) acc.toList := by
  refine vals_of_items (by simp [h.1]) fun i v e => ?_
  obtain ⟨c, u, h1, rfl⟩ := h.2 i v (by simpa using e)
  refine ⟨.str ⟨#[c]⟩, ?_, u, rfl⟩
  rw [List.getElem?_map]
  have : x.cps.toList[i]? = some c := by simpa using h1
  rw [this]
  rfl
theorem call_listS {X : Cx} (hc : X.calm = true) : CallR X (.type "list") rListS := by
  intro pins s σ H xs us Q I r h
  obtain ⟨z, rfl, hz, q⟩ := h
  obtain ⟨u, rfl, t, rfl⟩ := vals1 r
  refine call_list_str (I.ok.hd hc) z t (fun h' tk acc' c' hk hS hacc => ?_) hz
  refine ⟨.ref _, _, I.laid (t' := tk) (o := .lst (z.cps.toList.map fun c => .str ⟨#[c]⟩)) hk (Nat.le_refl _) ?_, rfl, q _ (I.hok.fresh (Nat.le_refl _))⟩
  refine ⟨by simpa [Str.length] using hz, acc'.toList, c', vals_signs hacc, ?_⟩
  rw [hS]
def rTupS : List V → Hp → VK → Prop := fun xs H Q => ∃ z : Str, xs = [.str z] ∧ z.length ≤ sizeLine ∧ ∀ l, H l = none → Q (.ref l) (upd H l (.tup (z.cps.toList.map fun c => .str ⟨#[c]⟩)))
theorem call_tupS {X : Cx} (hc : X.calm = true) : CallR X (.type "tuple") rTupS := by
  intro pins s σ H xs us Q I r h
  obtain ⟨z, rfl, hz, q⟩ := h
  obtain ⟨u, rfl, t, rfl⟩ := vals1 r
  refine call_tuple_str (I.ok.hd hc) z t (fun h' tk acc' hk hacc => ?_) hz
  have I1 : Inv X pins σ H { s with heap := h', toks := tk } := I.kept hk
  refine ⟨.ref _, _, I1.laid (t' := tk) (o := .tup (z.cps.toList.map fun c => .str ⟨#[c]⟩)) (fun b u e => Heap.get?_push_of_some _ e) (Nat.le_refl _) ?_, rfl, q _ (I1.hok.fresh (Nat.le_refl _))⟩
  exact ⟨by simpa [Str.length] using hz, acc'.toList, vals_signs hacc, _, Heap.get?_push_size _ rfl, rfl, 0, by simp⟩
def rListD (K : PySem.W.Frag) : List V → Hp → VK → Prop := fun xs H Q => (∃ p ys, xs = [.ref p] ∧ (SqL K H p ys ∨ SqT K H p ys) ∧ ∀ l, H l = none → Q (.ref l) (upd H l (.lst ys))) ∨ rListS xs H Q
theorem call_listD {X : Cx} (hc : X.calm = true) : CallR X (.type "list") (rListD X.K) := call_list_of.or (call_listS hc)
def rTupD (K : PySem.W.Frag) : List V → Hp → VK → Prop := fun xs H Q => (∃ p ys, xs = [.ref p] ∧ ((SqL K H p ys ∧ ∀ l, H l = none → Q (.ref l) (upd H l (.tup ys))) ∨ (SqT K H p ys ∧ Q (.ref p) H))) ∨ rTupS xs H Q
theorem call_tupD {X : Cx} (hc : X.calm = true) : CallR X (.type "tuple") (rTupD X.K) := call_tuple_of.or (call_tupS hc)
theorem signs_rep {s : List Nat} (h : chrOk s = true) : PReps K H ((sOf s).cps.toList.map fun c => V.str ⟨#[c]⟩) (s.map fun c => P.str [c]) := by
  rw [sOf_cps]
  induction s with
  | nil => exact .nil
  | cons c s ih =>
    exact .cons (.str [c] (chrOk_sub h fun x z => by rw [List.mem_singleton.mp z]; exact List.mem_cons_self)) (ih (chrOk_sub h fun x z => List.mem_cons_of_mem _ z))
theorem ok_list : OpOk K (rListD K) (opSem .list) := by
  intro vs ds H Q d pk h hQ
  match ds, pk, h with
  | [x], pk, h =>
    obtain ⟨v, F, rfl, r1⟩ := pk.one
    have h : opList x = some d := h
    unfold opList at h
    obtain ⟨ps, h1, h2⟩ := bind_some h
    split at h2
    · rename_i hl
      cases h2
      by_cases hs : ∃ s, x = .imm (.str s)
      · obtain ⟨s, rfl⟩ := hs
        obtain ⟨rfl, c1⟩ := r1.str_of
        cases h1
        rw [List.length_map] at hl
        exact .inr ⟨_, rfl, by rw [sOf_len]; exact le_line hl, fun p hp => fin_lst hQ hp (signs_rep c1)⟩
      · obtain ⟨a, xs, rfl, s1, q1⟩ := r1.seq_of h1 fun s e => hs ⟨s, e⟩
        exact .inl ⟨a, xs, rfl, s1, fun p hp => fin_lst hQ hp q1⟩
    · cases h2
theorem ok_tuple : OpOk K (rTupD K) (opSem .tuple) := by
  intro vs ds H Q d pk h hQ
  match ds, pk, h with
  | [x], pk, h =>
    obtain ⟨v, F, rfl, r1⟩ := pk.one
    have h : opTuple x = some d := h
    unfold opTuple at h
    obtain ⟨ps, h1, h2⟩ := bind_some h
    split at h2
    · rename_i hl
      cases h2
      by_cases hs : ∃ s, x = .imm (.str s)
      · obtain ⟨s, rfl⟩ := hs
        obtain ⟨rfl, c1⟩ := r1.str_of
        cases h1
        rw [List.length_map] at hl
        exact .inr ⟨_, rfl, by rw [sOf_len]; exact le_line hl, fun p hp => fin_tup hQ hp (signs_rep c1)⟩
      · obtain ⟨a, xs, rfl, s1, q1⟩ := r1.seq_st h1 fun s e => hs ⟨s, e⟩
        rcases s1 with s1 | s1
        · exact .inl ⟨a, xs, rfl, .inl ⟨s1, fun p hp => fin_tup hQ hp q1⟩⟩
        · exact .inl ⟨a, xs, rfl, .inr ⟨SqT.of s1, fin_imm (r := True) hQ (.tup s1 q1)⟩⟩
    · cases h2
/-! ### int, sum, all, any, join, index -/
def rIntD : List V → Hp → VK → Prop := fun xs H Q => (∃ i, xs = [.int i] ∧ Q (.int i) H) ∨ ∃ k, xs = [.bl k] ∧ Q (.int (if k then 1 else 0)) H
theorem ok_int : OpOk K rIntD (opSem .int) := by
  intro vs ds H Q d pk h hQ
  match ds, pk, h with
  | [x], pk, h =>
    obtain ⟨v, F, rfl, r1⟩ := pk.one
    have h : opInt x = some d := h
    unfold opInt at h
    split at h
    · obtain rfl := ii_inv h
      obtain rfl := r1.int_of
      exact .inl ⟨_, rfl, fin_imm (r := True) hQ (.int _)⟩
    · obtain rfl := ii_inv h
      obtain rfl := r1.bl_of
      exact .inr ⟨_, rfl, fin_imm (r := True) hQ (.int _)⟩
    · cases h
theorem allInts_eq : ∀ {ps : List P} {ns : List Int}, allInts ps = some ns → ps = ns.map P.int
  | [], ns, h => by cases h; rfl
  | .int i :: ps, ns, h => by
    unfold allInts at h
    cases q : allInts ps with
    | none => rw [q] at h; cases h
    | some ms => rw [q] at h; cases h; rw [allInts_eq q] <;> rfl
  | .non :: _, _, h => by cases h
  | .bl _ :: _, _, h => by cases h
  | .str _ :: _, _, h => by cases h
  | .tup _ :: _, _, h => by cases h
  | .lst _ :: _, _, h => by cases h
theorem allBls_eq : ∀ {ps : List P} {ns : List Bool}, allBls ps = some ns → ps = ns.map P.bl
  | [], ns, h => by cases h; rfl
  | .bl i :: ps, ns, h => by
    unfold allBls at h
    cases q : allBls ps with
    | none => rw [q] at h; cases h
    | some ms => rw [q] at h; cases h; rw [allBls_eq q] <;> rfl
  | .non :: _, _, h => by cases h
  | .int _ :: _, _, h => by cases h
  | .str _ :: _, _, h => by cases h
  | .tup _ :: _, _, h => by cases h
  | .lst _ :: _, _, h => by cases h
theorem allStrs_eq : ∀ {ps : List P} {ns : List (List Nat)}, allStrs ps = some ns → ps = ns.map P.str
  | [], ns, h => by cases h; rfl
  | .str i :: ps, ns, h => by
    unfold allStrs at h
    cases q : allStrs ps with
    | none => rw [q] at h; cases h
    | some ms => rw [q] at h; cases h; rw [allStrs_eq q] <;> rfl
  | .non :: _, _, h => by cases h
  | .int _ :: _, _, h => by cases h
  | .bl _ :: _, _, h => by cases h
  | .tup _ :: _, _, h => by cases h
  | .lst _ :: _, _, h => by cases h
/-- lists alone -/
theorem Rep.list_of {v : V} {d : D} {F : List Addr} {ps : List P} (h : Rep K H v d F) (e : listOf d = some ps) : ∃ a xs, v = .ref a ∧ SqL K H a xs ∧ PReps K H xs ps := by
  cases d with
  | lst qs =>
    obtain ⟨a, xs, h1, h2, h3, _⟩ := h.lst_of
    cases e
    exact ⟨a, xs, h1, SqL.of h2, h3⟩
  | imm p =>
    cases p with
    | lst qs =>
      obtain ⟨a, xs, h1, h2, h3⟩ := h.flst_of
      cases e
      exact ⟨a, xs, h1, h2.sql, h3⟩
    | _ => cases e
  | dic _ _ => cases e
theorem ok_sum : OpOk K (rSum K) (opSem .sum) := by
  intro vs ds H Q d pk h hQ
  match ds, pk, h with
  | [x], pk, h =>
    obtain ⟨v, F, rfl, r1⟩ := pk.one
    obtain ⟨ps, h1, h2⟩ := bind_some (show opSum x = some d from h)
    obtain ⟨ns, h3, h4⟩ := bind_some h2
    obtain rfl := ii_inv h4
    obtain rfl := allInts_eq h3
    obtain ⟨a, xs, rfl, s1, q1⟩ := r1.list_of h1
    obtain rfl := q1.of_ints
    exact ⟨a, ns, rfl, s1, fin_imm (r := True) hQ (.int _)⟩
/-! any, all, of lists and tuples -/
mutual
theorem plain_py : ∀ p : P, (toPy p).plain = true
  | .non => by simp [toPy, PyData.plain]
  | .bl b => by simp [toPy, PyData.plain]
  | .int i => by simp [toPy, PyData.plain]
  | .str s => by simp [toPy, PyData.plain]
  | .tup ps => by simp [toPy, PyData.plain, plains_py ps]
  | .lst ps => by simp [toPy, PyData.plain, plains_py ps]
theorem plains_py : ∀ ps : List P, PyData.plainAll (toPys ps) = true
  | [] => by simp [toPys, PyData.plainAll]
  | p :: ps => by simp [toPys, PyData.plainAll, plain_py p, plains_py ps]
end
theorem toPys_len (ps : List P) : (toPys ps).length = ps.length := by rw [toPys_map, List.length_map]
theorem toPys_emp (ps : List P) : (toPys ps).isEmpty = ps.isEmpty := by cases ps <;> simp [toPys]
theorem truthy_py (p : P) : (toPy p).truthy = truthP p := by
  cases p with
  | str s => cases s <;> simp [toPy, PyData.truthy, truthP, sOf_len] <;> omega
  | tup ps => simp [toPy, PyData.truthy, truthP, toPys_emp]
  | lst ps => simp [toPy, PyData.truthy, truthP, toPys_emp]
  | _ => simp [toPy, PyData.truthy, truthP]
theorem fits_py {p : P} (h : fitP p = true) : (toPy p).fits63 := by
  have e63 : (2 : Int) ^ 63 = 9223372036854775808 := by decide
  have hl : (line : Nat) = 16777216 := rfl
  cases p with
  | str s => have := of_decide_eq_true h; simp only [toPy, PyData.fits63, sOf_len]; rw [e63]; omega
  | tup ps => have := of_decide_eq_true h; simp only [toPy, PyData.fits63, toPys_len]; rw [e63]; omega
  | lst ps => have := of_decide_eq_true h; simp only [toPy, PyData.fits63, toPys_len]; rw [e63]; omega
  | _ => simp only [toPy, PyData.fits63]
theorem any_truthy (ps : List P) : (toPys ps).any PyData.truthy = ps.any truthP := by
  rw [toPys_map, List.any_map]
  congr 1
  funext p
  exact truthy_py p
theorem all_truthy (ps : List P) : (toPys ps).all PyData.truthy = ps.all truthP := by
  rw [toPys_map, List.all_map]
  congr 1
  funext p
  exact truthy_py p
def rAnyD (K : PySem.W.Frag) : List V → Hp → VK → Prop := fun vs H Q => ∃ x ds, vs = [x] ∧ (Dp K H x (.list ds) ∨ Dp K H x (.tuple ds)) ∧ PyData.plainAll ds = true ∧ (∀ d ∈ ds, d.fits63) ∧ Q (.bl (ds.any PyData.truthy)) H
def rAllD (K : PySem.W.Frag) : List V → Hp → VK → Prop := fun vs H Q => ∃ x ds, vs = [x] ∧ (Dp K H x (.list ds) ∨ Dp K H x (.tuple ds)) ∧ PyData.plainAll ds = true ∧ (∀ d ∈ ds, d.fits63) ∧ Q (.bl (ds.all PyData.truthy)) H
theorem cr_anyD {X : Cx} (hc : X.calm = true) : CallR X (.builtin "any") (rAnyD X.K) := by
  intro pins s σ H vs us Q I r h
  obtain ⟨x, ds, rfl, hd, hp, hf, q⟩ := h
  obtain ⟨u, rfl, ru⟩ := Vals.one r
  rcases hd with hd | hd
  · cases hd with
    | lst hs ha =>
      obtain ⟨its, rv, hl, hz⟩ := I.list hs
      cases ru
      obtain ⟨as, hr⟩ := Dp.readsAll I ds _ its ha rv
      exact PySem.W.any_list_data (I.ok.hd hc) hl.isList hr hp hf fun h' tk hk => ⟨.bl _, H, I.kept hk, rfl, q⟩
  · cases hd with
    | tup hs ha =>
      obtain ⟨its, rv, hl, hz⟩ := I.tuple hs
      cases ru
      obtain ⟨as, hr⟩ := Dp.readsAll I ds _ its ha rv
      exact PySem.W.any_tuple_data (I.ok.hd hc) hl hr hp hf fun h' tk hk => ⟨.bl _, H, I.kept hk, rfl, q⟩
theorem cr_allD {X : Cx} (hc : X.calm = true) : CallR X (.builtin "all") (rAllD X.K) := by
  intro pins s σ H vs us Q I r h
  obtain ⟨x, ds, rfl, hd, hp, hf, q⟩ := h
  obtain ⟨u, rfl, ru⟩ := Vals.one r
  rcases hd with hd | hd
  · cases hd with
    | lst hs ha =>
      obtain ⟨its, rv, hl, hz⟩ := I.list hs
      cases ru
      obtain ⟨as, hr⟩ := Dp.readsAll I ds _ its ha rv
      exact PySem.W.all_list_data (I.ok.hd hc) hl.isList hr hp hf fun h' tk hk => ⟨.bl _, H, I.kept hk, rfl, q⟩
  · cases hd with
    | tup hs ha =>
      obtain ⟨its, rv, hl, hz⟩ := I.tuple hs
      cases ru
      obtain ⟨as, hr⟩ := Dp.readsAll I ds _ its ha rv
      exact PySem.W.all_tuple_data (I.ok.hd hc) hl hr hp hf fun h' tk hk => ⟨.bl _, H, I.kept hk, rfl, q⟩
theorem Rep.sq_dp {v : V} {d : D} {F : List Addr} {ps : List P} (h : Rep K H v d F) (e : seqOf d = some ps) : Dp K H v (.list (toPys ps)) ∨ Dp K H v (.tuple (toPys ps)) := by
  cases d with
  | lst qs => have hd := h.dp rfl; cases e; exact .inl (by simpa [rd, toPy] using hd)
  | imm p =>
    cases p with
    | tup qs => have hd := h.dp rfl; cases e; exact .inr (by simpa [rd, toPy] using hd)
    | lst qs => have hd := h.dp rfl; cases e; exact .inl (by simpa [rd, toPy] using hd)
    | _ => cases e
  | dic _ _ => cases e
theorem fits_all {ps : List P} (h : ps.all fitP = true) : ∀ d ∈ toPys ps, d.fits63 := fun d hd => by
  rw [toPys_map] at hd
  obtain ⟨p, hp, rfl⟩ := List.mem_map.mp hd
  exact fits_py (List.all_eq_true.mp h p hp)
theorem ok_all : OpOk K (rAllD K) (opSem .all) := by
  intro vs ds H Q d pk h hQ
  match ds, pk, h with
  | [x], pk, h =>
    obtain ⟨v, F, rfl, r1⟩ := pk.one
    obtain ⟨ps, h1, h2⟩ := bind_some (show opAll x = some d from h)
    split at h2
    · rename_i hf
      obtain rfl := ib_inv h2
      refine ⟨v, toPys ps, rfl, r1.sq_dp h1, plains_py ps, fits_all hf, ?_⟩
      rw [all_truthy]
      exact fin_imm (r := True) hQ (.bl _)
    · cases h2
theorem ok_any : OpOk K (rAnyD K) (opSem .any) := by
  intro vs ds H Q d pk h hQ
  match ds, pk, h with
  | [x], pk, h =>
    obtain ⟨v, F, rfl, r1⟩ := pk.one
    obtain ⟨ps, h1, h2⟩ := bind_some (show opAny x = some d from h)
    split at h2
    · rename_i hf
      obtain rfl := ib_inv h2
      refine ⟨v, toPys ps, rfl, r1.sq_dp h1, plains_py ps, fits_all hf, ?_⟩
      rw [any_truthy]
      exact fin_imm (r := True) hQ (.bl _)
    · cases h2
theorem join_sOf (s : List Nat) : ∀ ns : List (List Nat), Str.join (sOf s) (ns.map sOf) = sOf (joinL s ns)
  | [] => rfl
  | [x] => rfl
  | x :: y :: r => by
    show sOf x ++ sOf s ++ Str.join (sOf s) ((y :: r).map sOf) = sOf (x ++ s ++ joinL s (y :: r))
    rw [join_sOf s (y :: r), sOf_app, sOf_app]
theorem chrOk_join {s : List Nat} (hs : chrOk s = true) : ∀ {ns : List (List Nat)}, (∀ n ∈ ns, chrOk n = true) → chrOk (joinL s ns) = true
  | [], _ => rfl
  | [x], h => h x List.mem_cons_self
  | x :: y :: r, h => chrOk_app (chrOk_app (h x List.mem_cons_self) hs) (chrOk_join hs fun n z => h n (List.mem_cons_of_mem _ z))
theorem PReps.strs_ok : ∀ {ns : List (List Nat)} {vs : List V}, PReps K H vs (ns.map P.str) → ∀ n ∈ ns, chrOk n = true
  | [], _, _, n, z => nomatch z
  | m :: ns, _, h, n, z => by
    cases h with
    | cons a b =>
      cases a with
      | str _ c =>
        rcases List.mem_cons.mp z with rfl | z
        · exact c
        · exact PReps.strs_ok b n z
def rJoinD (K : PySem.W.Frag) : V → List V → Hp → VK → Prop := fun x xs H Q => ∃ a p, ∃ ys : List Str, x = .str a ∧ xs = [.ref p] ∧ (SqL K H p (ys.map V.str) ∨ SqT K H p (ys.map V.str)) ∧
    (ys.map (·.length)).sum + ys.length * a.length ≤ 16777216 ∧ Q (.str (Txt.join a ys)) H
def m2n (r : V → List V → Hp → VK → Prop) : List V → Hp → VK → Prop := fun vs H Q => ∃ x xs, vs = x :: xs ∧ r x xs H Q
theorem ok_join : OpOk K (m2n (rJoinD K)) (opSem .join) := by
  intro vs ds H Q d pk h hQ
  match ds, pk, h with
  | [x, y], pk, h =>
    obtain ⟨v, u, F, G, rfl, r1, r2⟩ := pk.two
    have h : opJoin x y = some d := h
    unfold opJoin at h
    split at h
    · split at h
      · cases h
      · rename_i hns
        obtain ⟨ps, h1, h2⟩ := bind_some h
        obtain ⟨ns, h3, h4⟩ := bind_some h2
        split at h4
        · rename_i hl
          cases h4
          obtain rfl := allStrs_eq h3
          obtain ⟨rfl, c1⟩ := r1.str_of
          obtain ⟨a, xs, rfl, s1, q1⟩ := r2.seq_of h1 fun s e => hns s e
          have ok := q1.strs_ok
          obtain rfl := q1.of_strs
          refine ⟨_, _, rfl, _, a, ns.map sOf, rfl, rfl, s1, ?_, ?_⟩
          · rw [List.map_map, List.length_map, sOf_len]
            have e : (List.map ((fun x => x.length) ∘ sOf) ns) = ns.map List.length := List.map_congr_left fun n _ => sOf_len n
            rw [e]
            exact hl
          · rw [show Txt.join (sOf _) (List.map sOf _) = Str.join (sOf _) (List.map sOf _) from PySem.StrLaws.glued_eq_join _ _, join_sOf]
            exact fin_imm (r := True) hQ (.str _ (chrOk_join c1 ok))
        · cases h4
    · cases h
theorem idxOf_spec (p : P) : ∀ {ps : List P} {j : Nat}, idxOf p ps = some j → (∃ z, (toPys ps)[j]? = some z ∧ PyData.eqv z (toPy p) = true) ∧ ∀ (m : Nat) (z' : PyData), m < j → (toPys ps)[m]? = some z' → PyData.eqv z' (toPy p) = false
  | [], _, h => by cases h
  | q :: ps, j, h => by
    unfold idxOf at h
    by_cases c : peq q p = true
    · rw [if_pos c] at h
      cases h
      exact ⟨⟨toPy q, rfl, by rw [eqv_py]; exact c⟩, fun m z' hm => absurd hm (Nat.not_lt_zero m)⟩
    · rw [if_neg c] at h
      cases e : idxOf p ps with
      | none => rw [e] at h; cases h
      | some i =>
        rw [e] at h
        cases h
        obtain ⟨⟨z, h1, h2⟩, h3⟩ := idxOf_spec p e
        refine ⟨⟨z, h1, h2⟩, fun m z' hm hz => ?_⟩
        cases m with
        | zero =>
          have e1 : toPy q = z' := Option.some.inj hz
          rw [← e1, eqv_py]
          exact Bool.eq_false_iff.mpr c
        | succ m => exact h3 m z' (Nat.lt_of_succ_lt_succ hm) hz
def rIndexP (K : PySem.W.Frag) : V → List V → Hp → VK → Prop := fun x xs H Q => ∃ (a : Addr) (y : V) (d : PyData) (ds : List PyData) (j : Nat) (z : PyData), x = V.ref a ∧ xs = [y] ∧ Dp K H (V.ref a) (.list ds) ∧ Dp K H y d ∧
  PyData.canLayAll0 ds = true ∧ d.canLay0 = true ∧ min (PyData.depthAll ds) d.depth ≤ 50 ∧ ds[j]? = some z ∧ PyData.eqv z d = true ∧ (∀ (m : Nat) (z' : PyData), m < j → ds[m]? = some z' → PyData.eqv z' d = false) ∧ Q (.int (j : Nat)) H
end
end Sw
set_option maxHeartbeats 1000000
/-! Sw, part 7b: sorted, min, max of data; letters. -/
namespace Sw
open PySem PySem.Spec PyProof.Rows L2
section
variable {K : PySem.W.Frag} {H : Hp}
/-! ### min, max -/
theorem vals_at {xs : List V} {us : List Value} (r : Vals xs us) {j : Nat} {v : Value} (h : us[j]? = some v) : ∃ x, xs[j]? = some x ∧ RelV x v := by
  have hl := r.length
  have hj := (List.getElem?_eq_some_iff.mp h).1
  have hx : xs[j]? = some (xs[j]'(by omega)) := List.getElem?_eq_getElem (by omega)
  obtain ⟨u, hu, ru⟩ := r.get hx
  rw [h] at hu
  cases hu
  exact ⟨_, hx, ru⟩
theorem ltD_argBest (f : P → P → Bool) (g : PyData → PyData → Bool) (hfg : ∀ a b, g (toPy a) (toPy b) = f a b) (p : P) (ps : List P) :
    (p :: ps)[argBest (fun i j => g ((toPys (p :: ps)).getD i .none) ((toPys (p :: ps)).getD j .none)) ps.length]? = some (ps.foldl (fun a y => if f y a then y else a) p) := by
  have e : (fun i j => g ((toPys (p :: ps)).getD i .none) ((toPys (p :: ps)).getD j .none)) = fun i j => f ((p :: ps).getD i .non) ((p :: ps).getD j .non) := by
    funext i j
    have hg : ∀ k, (toPys (p :: ps)).getD k .none = toPy ((p :: ps).getD k .non) := fun k => by
      rw [toPys_map, List.getD_eq_getElem?_getD, List.getD_eq_getElem?_getD, List.getElem?_map]
      cases (p :: ps)[k]? <;> rfl
    rw [hg, hg, hfg]
  rw [e]
  obtain ⟨h1, h2⟩ := PySem.W.argBest_fold f P.non p ps ps.length (Nat.le_refl _)
  rw [List.take_length] at h2
  have hlt : argBest (fun i j => f ((p :: ps).getD i .non) ((p :: ps).getD j .non)) ps.length < (p :: ps).length := by rw [List.length_cons]; omega
  rw [List.getElem?_eq_getElem hlt, ← h2, List.getD_eq_getElem?_getD, List.getElem?_eq_getElem hlt] <;> rfl
theorem alikes_of {ps : List P} (h : alikes ps = true) : ∀ x ∈ toPys ps, ∀ y ∈ toPys ps, PySem.W.alike x y = true := fun x hx y hy => by
  rw [toPys_map] at hx hy
  obtain ⟨p, hp, rfl⟩ := List.mem_map.mp hx
  obtain ⟨q, hq, rfl⟩ := List.mem_map.mp hy
  exact List.all_eq_true.mp (List.all_eq_true.mp h p hp) q hq
theorem minOk_of {ps : List P} (h : minOk ps = true) : PySem.W.AlikeAll (toPys ps) ∧ PyData.depthAll (toPys ps) ≤ 50 := by
  unfold minOk at h
  simp only [Bool.and_eq_true, decide_eq_true_eq] at h
  obtain ⟨⟨h1, h2⟩, h3⟩ := h
  refine ⟨⟨alikes_of h1, fun x hx e => ?_⟩, by rw [depths_py]; exact h3⟩
  rw [toPys_map] at hx
  obtain ⟨p, hp, rfl⟩ := List.mem_map.mp hx
  have := List.all_eq_true.mp h2 p hp
  cases p <;> first | (simp [isNonP] at this; done) | (simp [toPy] at e; done)
/-- the item that a look over all finds -/
def rBest (K : PySem.W.Frag) (g : PyData → PyData → Bool) : List V → Hp → VK → Prop := fun vs H Q => ∃ v ds xs, vs = [v] ∧ ((∃ a, v = .ref a ∧ SqL K H a xs) ∨ (∃ a, v = .ref a ∧ SqT K H a xs)) ∧ DpAll K H xs ds ∧ PySem.W.AlikeAll ds ∧ ds ≠ [] ∧ PyData.depthAll ds ≤ 50 ∧
  ∀ x, xs[argBest (fun i j => g (ds.getD i .none) (ds.getD j .none)) (ds.length - 1)]? = some x → Q x H
theorem cr_minD {X : Cx} (hc : X.calm = true) (hu : X.A.units + 64 < cLine) : CallR X (.builtin "min") (rBest X.K PySem.W.dataLt) := by
  intro pins s σ H vs us Q I r h
  obtain ⟨v, ds, xs, rfl, hs, ha, hal, hne, hd, q⟩ := h
  obtain ⟨u, rfl, ru⟩ := Vals.one r
  have hn0 : 0 < ds.length := List.length_pos_iff.mpr hne
  rcases hs with ⟨a, rfl, hs⟩ | ⟨a, rfl, hs⟩
  · obtain ⟨its, rv, hl, hz⟩ := I.list hs
    cases ru
    obtain ⟨as, hr⟩ := Dp.readsAll I ds _ its ha rv
    have hr : ReadsAll s.heap its.toArray.toList ds as := hr
    have hn : its.toArray.size = ds.length := PySem.W.readsAll_len hr
    refine call_min_walkH (PySem.W.iter_listW (A := X.A.in1) (I.ok.hd hc) hl.isList fun s₂ e W st hfp hw hk => ?_)
    refine ⟨_, _, _, _, _, _, _, s.heap, _, rfl, W, st, hfp, by omega, hw, hk, PySem.W.cmpIn_lt (A := X.A.in1) hr hal (by show X.A.units + 1 + _ < _; omega), fun v s' hP m => ?_⟩
    obtain ⟨h', tk, rfl, hk'⟩ := PySem.W.moved_old e rfl m
    rw [hn] at hP
    obtain ⟨x, hx, rx⟩ := vals_at rv (by simpa using hP)
    exact ⟨x, H, I.kept hk', rx, q x hx⟩
  · obtain ⟨its, rv, hl, hz⟩ := I.tuple hs
    cases ru
    obtain ⟨as, hr⟩ := Dp.readsAll I ds _ its ha rv
    have hr : ReadsAll s.heap its.toArray.toList ds as := hr
    have hn : its.toArray.size = ds.length := PySem.W.readsAll_len hr
    refine call_min_walkH (PySem.W.iter_tupleW (A := X.A.in1) (I.ok.hd hc) hl fun s₂ e W st hfp hw hk => ?_)
    refine ⟨_, _, _, _, _, _, _, s.heap, _, rfl, W, st, hfp, by omega, hw, hk, PySem.W.cmpIn_lt (A := X.A.in1) hr hal (by show X.A.units + 1 + _ < _; omega), fun v s' hP m => ?_⟩
    obtain ⟨h', tk, rfl, hk'⟩ := PySem.W.moved_old e rfl m
    rw [hn] at hP
    obtain ⟨x, hx, rx⟩ := vals_at rv (by simpa using hP)
    exact ⟨x, H, I.kept hk', rx, q x hx⟩
theorem cr_maxD {X : Cx} (hc : X.calm = true) (hu : X.A.units + 64 < cLine) : CallR X (.builtin "max") (rBest X.K fun a b => PySem.W.dataLt b a) := by
  intro pins s σ H vs us Q I r h
  obtain ⟨v, ds, xs, rfl, hs, ha, hal, hne, hd, q⟩ := h
  obtain ⟨u, rfl, ru⟩ := Vals.one r
  have hn0 : 0 < ds.length := List.length_pos_iff.mpr hne
  rcases hs with ⟨a, rfl, hs⟩ | ⟨a, rfl, hs⟩
  · obtain ⟨its, rv, hl, hz⟩ := I.list hs
    cases ru
    obtain ⟨as, hr⟩ := Dp.readsAll I ds _ its ha rv
    have hr : ReadsAll s.heap its.toArray.toList ds as := hr
    have hn : its.toArray.size = ds.length := PySem.W.readsAll_len hr
    refine call_max_walkH (PySem.W.iter_listW (A := X.A.in1) (I.ok.hd hc) hl.isList fun s₂ e W st hfp hw hk => ?_)
    refine ⟨_, _, _, _, _, _, _, s.heap, _, rfl, W, st, hfp, by omega, hw, hk, PySem.W.cmpIn_gt (A := X.A.in1) hr hal (by show X.A.units + 1 + _ < _; omega), fun v s' hP m => ?_⟩
    obtain ⟨h', tk, rfl, hk'⟩ := PySem.W.moved_old e rfl m
    rw [hn] at hP
    obtain ⟨x, hx, rx⟩ := vals_at rv (by simpa using hP)
    exact ⟨x, H, I.kept hk', rx, q x hx⟩
  · obtain ⟨its, rv, hl, hz⟩ := I.tuple hs
    cases ru
    obtain ⟨as, hr⟩ := Dp.readsAll I ds _ its ha rv
    have hr : ReadsAll s.heap its.toArray.toList ds as := hr
    have hn : its.toArray.size = ds.length := PySem.W.readsAll_len hr
    refine call_max_walkH (PySem.W.iter_tupleW (A := X.A.in1) (I.ok.hd hc) hl fun s₂ e W st hfp hw hk => ?_)
    refine ⟨_, _, _, _, _, _, _, s.heap, _, rfl, W, st, hfp, by omega, hw, hk, PySem.W.cmpIn_gt (A := X.A.in1) hr hal (by show X.A.units + 1 + _ < _; omega), fun v s' hP m => ?_⟩
    obtain ⟨h', tk, rfl, hk'⟩ := PySem.W.moved_old e rfl m
    rw [hn] at hP
    obtain ⟨x, hx, rx⟩ := vals_at rv (by simpa using hP)
    exact ⟨x, H, I.kept hk', rx, q x hx⟩
theorem Rep.sq_both {v : V} {d : D} {F : List Addr} {ps : List P} (h : Rep K H v d F) (e : seqOf d = some ps) : ∃ xs, ((∃ a, v = .ref a ∧ SqL K H a xs) ∨ (∃ a, v = .ref a ∧ SqT K H a xs)) ∧ PReps K H xs ps := by
  cases d with
  | lst qs =>
    cases e
    obtain ⟨a, xs, rfl, s1, q1, _⟩ := h.lst_of
    exact ⟨xs, .inl ⟨a, rfl, SqL.of s1⟩, q1⟩
  | imm p =>
    cases p with
    | tup qs =>
      cases e
      obtain ⟨a, xs, rfl, s1, q1⟩ := h.tup_of
      exact ⟨xs, .inr ⟨a, rfl, s1⟩, q1⟩
    | lst qs =>
      cases e
      obtain ⟨a, xs, rfl, s1, q1⟩ := h.flst_of
      exact ⟨xs, .inl ⟨a, rfl, s1.sql⟩, q1⟩
    | _ => cases e
  | dic _ _ => cases e
theorem best_ok {f : P → P → Bool} {g : PyData → PyData → Bool} (hfg : ∀ a b, g (toPy a) (toPy b) = f a b) {v : V} {x : D} {F : List Addr} {p : P} {ps : List P} {Q : VK} (r1 : Rep K H v x F) (h1 : seqOf x = some (p :: ps)) (hm : minOk (p :: ps) = true)
    (hQ : ∀ u, PRep K H u (ps.foldl (fun a y => if f y a then y else a) p) → Q u H) : rBest K g [v] H Q := by
  obtain ⟨xs, hs, q1⟩ := r1.sq_both h1
  obtain ⟨m1, m2⟩ := minOk_of hm
  refine ⟨v, toPys (p :: ps), xs, rfl, hs, q1.dp, m1, by rw [toPys_map]; simp, m2, fun u hu => ?_⟩
  have hl : (toPys (p :: ps)).length - 1 = ps.length := by rw [toPys_map, List.length_map, List.length_cons]; omega
  rw [hl] at hu
  obtain ⟨q, hq, rq⟩ := q1.getV hu
  rw [ltD_argBest f g hfg p ps] at hq
  cases hq
  exact hQ u rq
theorem ok_minL : OpOk K (rBest K PySem.W.dataLt) (opSem .minL) := by
  intro vs ds H Q d pk h hQ
  match ds, pk, h with
  | [x], pk, h =>
    obtain ⟨v, F, rfl, r1⟩ := pk.one
    obtain ⟨ps, h1, h2⟩ := bind_some (show opMinL x = some d from h)
    cases ps with
    | nil => cases h2
    | cons p ps =>
      have h2 : (if minOk (p :: ps) then some (D.imm (minD p ps)) else none) = some d := h2
      split at h2
      · rename_i hm
        cases h2
        exact best_ok (f := ltD) (fun _ _ => rfl) r1 h1 hm fun u hu => fin_imm (r := True) hQ hu
      · cases h2
theorem ok_maxL : OpOk K (rBest K fun a b => PySem.W.dataLt b a) (opSem .maxL) := by
  intro vs ds H Q d pk h hQ
  match ds, pk, h with
  | [x], pk, h =>
    obtain ⟨v, F, rfl, r1⟩ := pk.one
    obtain ⟨ps, h1, h2⟩ := bind_some (show opMaxL x = some d from h)
    cases ps with
    | nil => cases h2
    | cons p ps =>
      have h2 : (if minOk (p :: ps) then some (D.imm (maxD p ps)) else none) = some d := h2
      split at h2
      · rename_i hm
        cases h2
        exact best_ok (f := fun a b => ltD b a) (fun _ _ => rfl) r1 h1 hm fun u hu => fin_imm (r := True) hQ hu
      · cases h2
/-! ### sorted -/
section
variable {prog : Program} {w : World} {A : Around} {E : Value → Shared → Prop} {s : Shared}
theorem collect_tup {l : Addr} {vs : List Value} {Q : List Value → Shared → Prop} (hl : s.heap.IsTuple l vs.toArray)
    (h : Q vs { s with heap := (s.heap.push (seqObj "list" #[] 0)).update s.heap.objs.size (Obj.mapSeq (· ++ vs.toArray)) }) (hsz : vs.length ≤ sizeLine) :
    wpAny (model prog w) A (collect (.ref l)) Q E s := by
  obtain ⟨o, ho, hc, n, hd⟩ := id hl
  unfold collect
  refine wpAny_bind (wpAny_runValue (codeAny_builtin entry_proto_collect' ?_))
  show wpAny _ _ (do again (.builtin "list.__iadd__" ⟨[← newList [], .ref l], []⟩)) _ _ s
  refine wpAny_bind (wpAny_newList (wpAny_pure ⟨Code.quiet_builtin _ (by decide +kernel), codeAny_builtin entry_list_iadd' ?_⟩))
  show wpAny _ _ (Builtin.List.listExtendWith (.ref s.heap.objs.size) (.ref l) (.ref s.heap.objs.size)) _ _ { s with heap := s.heap.push (seqObj "list" #[] 0) }
  unfold Builtin.List.listExtendWith
  have ho' : (s.heap.push (seqObj "list" #[] 0)).get? l = some o := Heap.get?_push_of_some _ ho
  refine wpAny_bind (wpAny_typeOf (T := "tuple") ⟨o, ho', hc⟩ ?_)
  have ht : (Value.type "tuple" == Value.type "tuple") = true := by rfl
  rw [if_pos (by rw [ht]; simp)]
  refine wpAny_bind (listItems_at ho' hd ?_)
  refine wpAny_bind (listItems_at (xs := #[]) (n := 0) (Heap.get?_push_size _ rfl) rfl ?_)
  rw [if_neg (by simp)]
  refine wpAny_bind (listUpdate_at (xs := #[]) (n := 0) (Heap.get?_push_size _ rfl) rfl ?_ (Nat.zero_le _) (by show (#[] ++ vs.toArray).size ≤ sizeLine + 1; simp only [Array.size_append, List.size_toArray, List.length_nil]; omega))
  refine wpAny_pure ?_
  show wpAny (model prog w) A (do
      let o ← load s.heap.objs.size
      match o.data with
      | .seq xs _ => pure xs.toList
      | _ => unsupported "internal:collect") Q E { s with heap := (s.heap.push (seqObj "list" #[] 0)).update s.heap.objs.size (Obj.mapSeq (· ++ vs.toArray)) }
  refine wpAny_bind (wpAny_load (PyProof.Rows.get?_update_seq (Heap.get?_push_size _ rfl) _) ?_)
  show wpAny _ _ (pure ((#[] : Array Value) ++ vs.toArray).toList) Q E _
  rw [show ((#[] : Array Value) ++ vs.toArray).toList = vs by simp]
  exact wpAny_pure h
theorem sorted_of_sortT {l : Addr} {vs : List Value} {Q : Value → Shared → Prop} (hl : s.heap.IsTuple l vs.toArray) (hL : vs.length ≤ sizeLine)
    (body : ∀ E' : Value → Shared → Prop, wpAny (model prog w) A.in1.in1 (Builtin.«list.sort» ⟨[.ref (s.heap.objs.size + 1)], []⟩) (fun f s' => f = .done (.ret .none) ∧ Q (.ref (s.heap.objs.size + 1)) s') E' { s with heap := PySem.W.copyHeap s.heap vs }) :
    wpAny (model prog w) A (call (.builtin "sorted") [.ref l] []) Q E s := by
  refine call_function_entry_kw kind_sorted plain_sorted entry_sorted (args_sorted1 _) ?_
  unfold Builtin.«sorted»
  refine wpAny_bind (m := checkCount "sorted" 1 1 _) (wpAny_pure ?_)
  refine wpAny_bind (collect_tup hl ?_ hL)
  refine wpAny_bind (wpAny_newList ?_ hL)
  have hsz : ((s.heap.push (seqObj "list" #[] 0)).update s.heap.objs.size (Obj.mapSeq (· ++ vs.toArray))).objs.size = s.heap.objs.size + 1 := by
    rw [Heap.size_update, size_push']
  show wpAny _ _ _ _ _ { s with heap := PySem.W.copyHeap s.heap vs }
  rw [hsz]
  refine wpAny_bind (wpAny_holding (wpAny_call_entry_kw slot_list_sort ⟨_, PySem.W.copyHeap_at s.heap vs, rfl⟩ entry_list_sort ?body (args_list_sort _)))
  case body =>
    show wpAny (model prog w) A.in1.in1 (Builtin.«list.sort» ⟨[.ref (s.heap.objs.size + 1)], []⟩) _ _ _
    refine wpAny_mono (body _) (fun f s' hf => ?_) fun _ _ e => e
    obtain ⟨rfl, hq⟩ := hf
    exact ⟨_, rfl, wpAny_pure ⟨_, rfl, hq⟩⟩
theorem sorted_dataT {β : Type} {vs : List Value} {bs : List β} {enc : β → PyData} {R : Value → β → Prop} {l : Addr} {Q : Value → Shared → Prop} (hl : s.heap.IsTuple l vs.toArray) (e : PySem.W.EachIs R vs bs) (er : PySem.W.EachIs (fun v b => ∃ as, Reads s.heap v (enc b) as) vs bs) (hal : PySem.W.AllAlike (bs.map enc)) (hk : PySem.W.Sortable (bs.map enc)) (hL : bs.length ≤ sizeLine)
    (hu : ∀ b, b ∈ bs → A.units + 2 + (enc b).depth < cLine) (h : ∀ out, out.length = bs.length → PySem.W.EachIs R out (bs.mergeSort (PySem.W.dataLe false enc)) → Q (.ref (s.heap.objs.size + 1)) { s with heap := PyProof.Rows.sortedAll s.heap vs (List.toArray out) }) :
    wpAny (model prog w) A (call (.builtin "sorted") [.ref l]) Q E s := by
  have er' : PySem.W.EachIs (fun v b => ∃ as, Reads (PySem.W.sortingHeap (PySem.W.copyHeap s.heap vs) (s.heap.objs.size + 1) vs) v (enc b) as) vs bs := er.mono fun _ _ ⟨as, r⟩ => ⟨as, PyProof.Rows.Reads.keeps (fun _ _ => PySem.W.sorting_copy_old) r⟩
  exact sorted_of_sortT hl (by rw [e.length]; exact hL) fun _ => PySem.W.list_sort_vals (s := { s with heap := PySem.W.copyHeap s.heap vs }) (PySem.W.copyHeap_at s.heap vs)
    (PySem.W.SortsAt.data (s := { s with heap := PySem.W.sortingHeap (PySem.W.copyHeap s.heap vs) (s.heap.objs.size + 1) vs }) (PySem.W.each_map (R := fun v d => ∃ as, Reads (PySem.W.sortingHeap (PySem.W.copyHeap s.heap vs) (s.heap.objs.size + 1) vs) v d as) enc er') hal hk (PySem.W.bound_map hu)) (by rw [e.length]; exact hL)
    ⟨rfl, h _ (by rw [PySem.W.sortVals_length false rfl]; exact e.length) (PySem.W.sortVals_data false e er' hal)⟩
end
/-- sorted(xs) -/
def rSortD (K : PySem.W.Frag) : List V → Hp → VK → Prop := fun vs H Q => ∃ v xs ps, vs = [v] ∧ ((∃ a, v = .ref a ∧ SqL K H a xs) ∨ (∃ a, v = .ref a ∧ SqT K H a xs)) ∧ PReps K H xs ps ∧ sortOk ps = true ∧
  ∀ ys p, PReps K H ys (sortD ps) → H p = none → Q (.ref p) (upd H p (.lst ys))
theorem each_vals : ∀ {xs : List V} {us : List Value} {ps : List P}, Vals xs us → xs.length = ps.length → PySem.W.EachIs (fun v (b : V × P) => RelV b.1 v) us (xs.zip ps)
  | [], _, [], .nil, _ => .nil
  | x :: xs, _, p :: ps, .cons r t, h => .cons r (each_vals t (by simpa using h))
  | [], _, _ :: _, _, h => by simp at h
  | _ :: _, _, [], _, h => by simp at h
theorem vals_each : ∀ {us : List Value} {bs : List (V × P)}, PySem.W.EachIs (fun v (b : V × P) => RelV b.1 v) us bs → Vals (bs.map (·.1)) us
  | _, _, .nil => .nil
  | _, _, .cons r t => .cons r (vals_each t)
theorem reps_zip : ∀ {xs : List V} {ps : List P}, PReps K H xs ps → ∀ b ∈ xs.zip ps, PRep K H b.1 b.2
  | _, _, .nil, b, h => nomatch h
  | _, _, .cons r t, b, h => by
    rw [List.zip_cons_cons] at h
    rcases List.mem_cons.mp h with rfl | h
    · exact r
    · exact reps_zip t b h
theorem reps_of_all : ∀ {bs : List (V × P)}, (∀ b ∈ bs, PRep K H b.1 b.2) → PReps K H (bs.map (·.1)) (bs.map (·.2))
  | [], _ => .nil
  | b :: bs, h => .cons (h b List.mem_cons_self) (reps_of_all fun c hc => h c (List.mem_cons_of_mem _ hc))
theorem zip_snd : ∀ {xs : List V} {ps : List P}, xs.length = ps.length → (xs.zip ps).map (·.2) = ps
  | [], [], _ => rfl
  | x :: xs, p :: ps, h => by rw [List.zip_cons_cons, List.map_cons, zip_snd (by simpa using h)]
  | [], _ :: _, h => by simp at h
  | _ :: _, [], h => by simp at h
theorem each_reads {X : Cx} {pins : List (Addr × Obj)} {σ : L2.St} {s : Shared} (I : Inv X pins σ H s) : ∀ {xs : List V} {us : List Value} {ps : List P}, Vals xs us → PReps X.K H xs ps → PySem.W.EachIs (fun v (b : V × P) => ∃ as, Reads s.heap v (toPy b.2) as) us (xs.zip ps)
  | _, _, _, .nil, .nil => .nil
  | _, _, _, .cons r t, .cons a b => .cons (Dp.reads I _ _ _ a.dp r) (each_reads I t b)
theorem sortOk_of {ps : List P} {xs : List V} (hl : xs.length = ps.length) (h : sortOk ps = true) : PySem.W.AllAlike ((xs.zip ps).map fun b => toPy b.2) ∧ PySem.W.Sortable ((xs.zip ps).map fun b => toPy b.2) ∧ ps.length ≤ line ∧ ∀ b ∈ xs.zip ps, (toPy b.2).depth ≤ 50 := by
  have e : (xs.zip ps).map (fun b => toPy b.2) = toPys ps := by
    rw [toPys_map]
    have := congrArg (List.map toPy) (zip_snd hl)
    rwa [List.map_map] at this
  unfold sortOk at h
  simp only [Bool.and_eq_true, decide_eq_true_eq] at h
  obtain ⟨⟨⟨h1, h2⟩, h3⟩, h4⟩ := h
  refine ⟨?_, ?_, h4, fun b hb => ?_⟩
  · rw [e]
    exact alikes_of h1
  · rw [e, toPys_map]
    rcases Bool.or_eq_true_iff.mp h2 with h | h
    · refine .inl fun d hd => ?_
      obtain ⟨p, hp, rfl⟩ := List.mem_map.mp hd
      have := List.all_eq_true.mp h p hp
      match p, this with
      | .tup (a :: r), _ => exact ⟨toPy a, toPys r, by simp [toPy, toPys]⟩
    · refine .inr fun d hd => ?_
      obtain ⟨p, hp, rfl⟩ := List.mem_map.mp hd
      have := List.all_eq_true.mp h p hp
      cases p <;> simp [isNonP, isTupP, toPy] at this ⊢
  · rw [depth_py]
    have hm : b.2 ∈ ps := by
      have : b.2 ∈ (xs.zip ps).map (·.2) := List.mem_map.mpr ⟨b, hb, rfl⟩
      rwa [zip_snd hl] at this
    have : ∀ qs : List P, b.2 ∈ qs → depth b.2 ≤ depths qs := by
      intro qs
      induction qs with
      | nil => intro h; cases h
      | cons q qs ih =>
        intro h
        simp only [depths]
        rcases List.mem_cons.mp h with h | h
        · rw [h]; exact Nat.le_max_left ..
        · exact Nat.le_trans (ih h) (Nat.le_max_right ..)
    exact Nat.le_trans (this ps hm) h3
theorem cr_sortD {X : Cx} (hu : X.A.units + 64 < cLine) : CallR X (.builtin "sorted") (rSortD X.K) := by
  intro pins s σ H vs us Q I r h
  obtain ⟨v, xs, ps, rfl, hs, hp, ho, q⟩ := h
  obtain ⟨u, rfl, ru⟩ := Vals.one r
  have hl := hp.length
  obtain ⟨s1, s2, s3, s4⟩ := sortOk_of hl ho
  have fin : ∀ (its out : List Value), Vals xs its → out.length = (xs.zip ps).length → PySem.W.EachIs (fun v (b : V × P) => RelV b.1 v) out ((xs.zip ps).mergeSort (PySem.W.dataLe false fun b => toPy b.2)) →
      EP X pins σ Q (.ref (s.heap.objs.size + 1)) { s with heap := PyProof.Rows.sortedAll s.heap its (List.toArray out) } := fun its out rv ho1 ho2 => by
    have hz : (xs.zip ps).length = ps.length := by rw [List.length_zip, hl, Nat.min_self]
    obtain ⟨ep, he'⟩ := PyProof.Rows.sortedAll_at s.heap its out.toArray
    have e2 : ((xs.zip ps).mergeSort (PySem.W.dataLe false fun b => toPy b.2)).map (·.2) = sortD ps := by
      have h1 := List.map_mergeSort (r := PySem.W.dataLe false fun b : V × P => toPy b.2) (s := fun a b => !ltD b a) (f := (·.2)) (l := xs.zip ps) (fun a _ b _ => rfl)
      rw [h1, zip_snd hl]
      rfl
    have hall : ∀ b ∈ (xs.zip ps).mergeSort (PySem.W.dataLe false fun b => toPy b.2), PRep X.K H b.1 b.2 := fun b hb => reps_zip hp b ((List.mergeSort_perm _ _).mem_iff.mp hb)
    have hr := reps_of_all hall
    rw [e2] at hr
    have hlen : (((xs.zip ps).mergeSort (PySem.W.dataLe false fun b => toPy b.2)).map (·.1)).length ≤ sizeLine := by
      rw [List.length_map, (List.mergeSort_perm _ _).length_eq, hz]
      exact le_line s3
    exact ⟨.ref _, upd H (s.heap.objs.size + 1) (.lst (((xs.zip ps).mergeSort (PySem.W.dataLe false fun b => toPy b.2)).map (·.1))), I.laid (t' := s.toks) (fun _ _ => PyProof.Rows.sortedAll_old) (Nat.le_succ _) ⟨hlen, out, ep, vals_each ho2, he'⟩, rfl, q _ _ hr (I.hok.fresh (Nat.le_succ _))⟩
  have hbl : (xs.zip ps).length ≤ sizeLine := by
    rw [List.length_zip, hl, Nat.min_self]
    exact le_line s3
  rcases hs with ⟨a, rfl, hs⟩ | ⟨a, rfl, hs⟩
  · obtain ⟨its, rv, hla, hz⟩ := I.list hs
    cases ru
    exact PySem.W.sorted_data hla.isList (each_vals rv hl) (each_reads I rv hp) s1 s2 hbl (fun b hb => by have := s4 b hb; omega) fun out h1 h2 => fin its out rv h1 h2
  · obtain ⟨its, rv, hla, hz⟩ := I.tuple hs
    cases ru
    exact sorted_dataT hla (each_vals rv hl) (each_reads I rv hp) s1 s2 hbl (fun b hb => by have := s4 b hb; omega) fun out h1 h2 => fin its out rv h1 h2
end
end Sw
set_option maxHeartbeats 1000000
/-! Sw, part 7c: letters, repr. -/
namespace Sw
open PySem PySem.Spec PyProof.Rows L2
theorem placed_map {s : List Nat} {f : Nat → Nat → List Nat} {g : Nat → Nat} (h : ∀ (i c : Nat), s[i]? = some c → f i c = [g c]) : placed (sOf s) f = (s.map g).toArray := by
  unfold placed sOf
  rw [List.mapIdx_toArray]
  have e : List.mapIdx (fun i c => (f i c).toArray) s = (s.map fun c => #[g c]) := by
    apply List.ext_getElem?
    intro i
    rw [List.getElem?_mapIdx, List.getElem?_map]
    cases q : s[i]? with
    | none => rfl
    | some c => simp [h i c q]
  rw [e]
  apply Array.ext'
  rw [Array.toList_flatten]
  simp
  have : ∀ l : List Nat, (List.map (fun x => [g x]) l).flatten = List.map g l := fun l => by
    induction l with
    | nil => rfl
    | cons a l ih => rw [List.map_cons, List.flatten_cons, ih] <;> rfl
  first | exact this s | (simpa [Function.comp_def] using this s)
theorem low_at : ∀ c, c < 128 → Unicode.lowerOf c = [loC c] := by decide +kernel
theorem up_at : ∀ c, c < 128 → Unicode.upperOf c = [upC c] := by decide +kernel
theorem sw_at : ∀ c, c < 128 → (if Unicode.isUpper c then Unicode.lowerOf c else if Unicode.isLower c then Unicode.upperOf c else [c]) = [swC c] := by decide +kernel
theorem ascii_of {s : List Nat} (h : ascii s = true) : (∀ c ∈ s, c < 128) ∧ s.length ≤ 5000000 := by
  unfold ascii at h
  rw [Bool.and_eq_true, decide_eq_true_eq] at h
  exact ⟨fun c hc => by simpa using List.all_eq_true.mp h.1 c hc, h.2⟩
theorem lowAt_of {s : List Nat} {i c : Nat} (hc : s[i]? = some c) (h : c < 128) : Unicode.lowerAt (sOf s).cps i = [loC c] := by
  unfold Unicode.lowerAt
  have e : (sOf s).cps[i]? = some c := by simpa [sOf] using hc
  rw [e]
  have : (c == 0x3A3) = false := beq_eq_false_iff_ne.mpr (by omega)
  simp only [this, Bool.false_and, Bool.false_eq_true, if_false]
  exact low_at c h
theorem lower_is {s : List Nat} (h : ascii s = true) : Txt.lower (sOf s) = sOf (s.map loC) := by
  unfold Txt.lower
  rw [placed_map (g := loC) fun i c hc => lowAt_of hc ((ascii_of h).1 c (List.mem_of_getElem? hc))]
  rfl
theorem upper_is {s : List Nat} (h : ascii s = true) : Txt.upper (sOf s) = sOf (s.map upC) := by
  unfold Txt.upper
  rw [placed_map (g := upC) fun i c hc => up_at c ((ascii_of h).1 c (List.mem_of_getElem? hc))]
  rfl
theorem swap_is {s : List Nat} (h : ascii s = true) : Txt.swapcase (sOf s) = sOf (s.map swC) := by
  unfold Txt.swapcase
  rw [placed_map (g := swC) fun i c hc => ?_]
  · rfl
  · have h1 := (ascii_of h).1 c (List.mem_of_getElem? hc)
    rw [lowAt_of hc h1, ← low_at c h1]
    exact sw_at c h1
theorem lo_lt : ∀ c, c < 128 → loC c < 0x110000 := fun c h => by unfold loC; split <;> omega
theorem up_lt : ∀ c, c < 128 → upC c < 0x110000 := fun c h => by unfold upC; split <;> omega
theorem sw_lt : ∀ c, c < 128 → swC c < 0x110000 := fun c h => by unfold swC; split <;> (try split) <;> omega
theorem chrOk_map {s : List Nat} {g : Nat → Nat} (h : ascii s = true) (hg : ∀ c, c < 128 → g c < 0x110000) : chrOk (s.map g) = true := by
  unfold chrOk
  rw [List.all_map, List.all_eq_true]
  intro c hc
  exact decide_eq_true (hg c ((ascii_of h).1 c hc))
section
variable {K : PySem.W.Frag} {H : Hp}
def rTx (F : Str → Str) : V → List V → Hp → VK → Prop := fun x xs H Q => ∃ a, x = .str a ∧ xs = [] ∧ a.length ≤ 5592405 ∧ Q (.str (F a)) H
theorem mt_swapcase {X : Cx} : MtR X "str.swapcase" (fun x xs H Q => ∃ a, x = .str a ∧ xs = [] ∧ (a.length ≤ 5592405 ∧ (Txt.swapcase a).length ≤ 5592405) ∧ Q (.str (Txt.swapcase a)) H) :=
  mt0 (C := fun a => a.length ≤ 5592405 ∧ (Txt.swapcase a).length ≤ 5592405) (g := fun a => .str (Txt.swapcase a)) fun a _ s _ hc h =>
    PySem.SC.swapcase (PyProof.Rows.short24 (by have h1 := hc.2; omega)) (h _ (s.toks + 1) ⟨_, rfl⟩)
def rTx2 (F : Str → Str) : V → List V → Hp → VK → Prop := fun x xs H Q => ∃ a, x = .str a ∧ xs = [] ∧ (a.length ≤ 5592405 ∧ (F a).length ≤ 5592405) ∧ Q (.str (F a)) H
theorem opTx_inv {g : Nat → Nat} {x d : D} (h : opTx g x = some d) : ∃ s, x = .imm (.str s) ∧ ascii s = true ∧ d = .imm (.str (s.map g)) := by
  unfold opTx at h
  split at h
  · split at h
    · rename_i c
      cases h
      exact ⟨_, rfl, c, rfl⟩
    · cases h
  · cases h
theorem ok_tx {o : Op} {g : Nat → Nat} {F : Str → Str} (hs : ∀ x, opSem o [x] = opTx g x) (hs0 : opSem o [] = none) (hs2 : ∀ x y r, opSem o (x :: y :: r) = none) (hF : ∀ s, ascii s = true → F (sOf s) = sOf (s.map g)) (hg : ∀ c, c < 128 → g c < 0x110000) : OpOk K (fun vs H Q => ∃ x xs, vs = x :: xs ∧ rTx2 F x xs H Q) (opSem o) := by
  intro vs ds H Q d pk h hQ
  match ds, pk, h with
  | [], _, h => rw [hs0] at h; cases h
  | x :: y :: r, _, h => rw [hs2] at h; cases h
  | [x], pk, h =>
    rw [hs] at h
    obtain ⟨v, F0, rfl, r1⟩ := pk.one
    obtain ⟨s, rfl, ha, rfl⟩ := opTx_inv h
    obtain ⟨rfl, _⟩ := r1.str_of
    have hl := (ascii_of ha).2
    refine ⟨_, [], rfl, sOf s, rfl, rfl, ⟨by rw [sOf_len]; omega, by rw [hF s ha, sOf_len, List.length_map]; omega⟩, ?_⟩
    rw [hF s ha]
    exact fin_imm (r := True) hQ (.str _ (chrOk_map ha hg))
theorem ok_swapcase : OpOk K (fun vs H Q => ∃ x xs, vs = x :: xs ∧ rTx2 Txt.swapcase x xs H Q) (opSem .swapcase) := ok_tx (g := swC) (fun _ => rfl) rfl (fun _ _ _ => rfl) (fun _ => swap_is) sw_lt
theorem ok_lower : OpOk K (fun vs H Q => ∃ x xs, vs = x :: xs ∧ rTx2 Txt.lower x xs H Q) (opSem .lower) := ok_tx (g := loC) (fun _ => rfl) rfl (fun _ _ _ => rfl) (fun _ => lower_is) lo_lt
theorem ok_upper : OpOk K (fun vs H Q => ∃ x xs, vs = x :: xs ∧ rTx2 Txt.upper x xs H Q) (opSem .upper) := ok_tx (g := upC) (fun _ => rfl) rfl (fun _ _ _ => rfl) (fun _ => upper_is) up_lt
theorem mt_lower2 {X : Cx} : MtR X "str.lower" (rTx2 Txt.lower) := fun pins s σ H x xs v us Q I rx rxs h => mt_lower pins s σ H x xs v us Q I rx rxs (by obtain ⟨a, h1, h2, h3, h4⟩ := h; exact ⟨a, h1, h2, h3.1, h4⟩)
theorem mt_upper2 {X : Cx} : MtR X "str.upper" (rTx2 Txt.upper) := fun pins s σ H x xs v us Q I rx rxs h => mt_upper pins s σ H x xs v us Q I rx rxs (by obtain ⟨a, h1, h2, h3, h4⟩ := h; exact ⟨a, h1, h2, h3.1, h4⟩)
/-! ### repr -/
def reprB (b : Bool) : List Nat := if b then [84, 114, 117, 101] else [70, 97, 108, 115, 101]
def rRepr : List V → Hp → VK → Prop := fun vs H Q => (∃ b, vs = [.bl b] ∧ Q (.str (sOf (reprB b))) H) ∨ (vs = [.non] ∧ Q (.str (sOf [78, 111, 110, 101])) H)
theorem cr_repr {X : Cx} : CallR X (.builtin "repr") rRepr := by
  intro pins s σ H vs us Q I r h
  rcases h with ⟨b, rfl, q⟩ | ⟨rfl, q⟩
  · obtain ⟨u, rfl, ru⟩ := Vals.one r
    cases ru
    have e : (if b then ("True" : Str) else "False") = sOf (reprB b) := by cases b <;> decide +kernel
    exact PySem.P.repr_of_bool (by rw [e]; exact ⟨.str _, H, I.tok _, ⟨_, rfl⟩, q⟩)
  · obtain ⟨u, rfl, ru⟩ := Vals.one r
    cases ru
    have e : ("None" : Str) = sOf [78, 111, 110, 101] := by decide +kernel
    exact PySem.P.repr_of_none (by rw [e]; exact ⟨.str _, H, I.tok _, ⟨_, rfl⟩, q⟩)
theorem ok_repr : OpOk K rRepr (opSem .repr) := by
  intro vs ds H Q d pk h hQ
  match ds, pk, h with
  | [x], pk, h =>
    obtain ⟨v, F, rfl, r1⟩ := pk.one
    have h : opRepr x = some d := h
    unfold opRepr at h
    split at h
    · cases h
      obtain rfl := r1.bl_of
      exact .inl ⟨_, rfl, fin_imm (r := True) hQ (.str _ (by unfold reprB; split <;> decide))⟩
    · cases h
      obtain ⟨h, _⟩ := r1.imm_of
      cases h
      exact .inr ⟨rfl, fin_imm (r := True) hQ (.str _ (by decide))⟩
    · cases h
end
end Sw
set_option maxHeartbeats 1000000
/-! Sw, part 7d: methods of texts and of dicts. -/
namespace Sw
open PySem PySem.Spec PyProof.Rows L2
section
variable {K : PySem.W.Frag} {H : Hp}
def rT0 (f : Str → Bool) : V → List V → Hp → VK → Prop := fun x xs H Q => ∃ a, x = .str a ∧ xs = [] ∧ True ∧ Q (.bl (f a)) H
def rTI1 (f : Str → Str → Int) : V → List V → Hp → VK → Prop := fun x xs H Q => ∃ a b, x = .str a ∧ xs = [.str b] ∧ Q (.int (f a b)) H
def rTB1 (f : Str → Str → Bool) : V → List V → Hp → VK → Prop := fun x xs H Q => ∃ a b, x = .str a ∧ xs = [.str b] ∧ Q (.bl (f a b)) H
def rTI2 (f : Str → Str → Int → Int) : V → List V → Hp → VK → Prop := fun x xs H Q => ∃ (a b : Str) (i : Int), x = .str a ∧ xs = [.str b, .int i] ∧ Q (.int (f a b i)) H
def rTB2 (f : Str → Str → Int → Bool) : V → List V → Hp → VK → Prop := fun x xs H Q => ∃ (a b : Str) (i : Int), x = .str a ∧ xs = [.str b, .int i] ∧ Q (.bl (f a b i)) H
theorem ok_T0 (f : Str → Bool) : OpOk K (m2n (rT0 f)) (opT0 f) := by
  intro vs ds H Q d pk h hQ
  unfold opT0 at h
  split at h
  · obtain rfl := ib_inv h
    obtain ⟨v, F, rfl, r1⟩ := pk.one
    obtain ⟨rfl, _⟩ := r1.str_of
    exact ⟨_, _, rfl, _, rfl, rfl, trivial, fin_imm (r := True) hQ (.bl _)⟩
  · cases h
theorem ok_TI1 (f : Str → Str → Int) : OpOk K (m2n (rTI1 f)) (opTI1 f) := by
  intro vs ds H Q d pk h hQ
  unfold opTI1 at h
  split at h
  · obtain rfl := ii_inv h
    obtain ⟨v, u, F, G, rfl, r1, r2⟩ := pk.two
    obtain ⟨rfl, _⟩ := r1.str_of
    obtain ⟨rfl, _⟩ := r2.str_of
    exact ⟨_, _, rfl, _, _, rfl, rfl, fin_imm (r := True) hQ (.int _)⟩
  · cases h
theorem ok_TB1 (f : Str → Str → Bool) : OpOk K (m2n (rTB1 f)) (opTB1 f) := by
  intro vs ds H Q d pk h hQ
  unfold opTB1 at h
  split at h
  · obtain rfl := ib_inv h
    obtain ⟨v, u, F, G, rfl, r1, r2⟩ := pk.two
    obtain ⟨rfl, _⟩ := r1.str_of
    obtain ⟨rfl, _⟩ := r2.str_of
    exact ⟨_, _, rfl, _, _, rfl, rfl, fin_imm (r := True) hQ (.bl _)⟩
  · cases h
theorem ok_TI2 (f : Str → Str → Int → Int) : OpOk K (m2n (rTI2 f)) (opTI2 f) := by
  intro vs ds H Q d pk h hQ
  unfold opTI2 at h
  split at h
  · obtain rfl := ii_inv h
    obtain ⟨v, u, w, F, G, L, rfl, r1, r2, r3⟩ := pk.three
    obtain ⟨rfl, _⟩ := r1.str_of
    obtain ⟨rfl, _⟩ := r2.str_of
    obtain rfl := r3.int_of
    exact ⟨_, _, rfl, _, _, _, rfl, rfl, fin_imm (r := True) hQ (.int _)⟩
  · cases h
theorem ok_TB2 (f : Str → Str → Int → Bool) : OpOk K (m2n (rTB2 f)) (opTB2 f) := by
  intro vs ds H Q d pk h hQ
  unfold opTB2 at h
  split at h
  · obtain rfl := ib_inv h
    obtain ⟨v, u, w, F, G, L, rfl, r1, r2, r3⟩ := pk.three
    obtain ⟨rfl, _⟩ := r1.str_of
    obtain ⟨rfl, _⟩ := r2.str_of
    obtain rfl := r3.int_of
    exact ⟨_, _, rfl, _, _, _, rfl, rfl, fin_imm (r := True) hQ (.bl _)⟩
  · cases h
/-! ### d.get -/
def rGet1 : V → List V → Hp → VK → Prop := fun x xs H Q => ∃ a y o, x = .ref a ∧ xs = [y] ∧ DGet H a y o ∧ Q (o.getD .non) H
def rGet2 : V → List V → Hp → VK → Prop := fun x xs H Q => ∃ a y z o, x = .ref a ∧ xs = [y, z] ∧ DGet H a y o ∧ Q (o.getD z) H
theorem mt_get1 {X : Cx} (hu : X.A.units + 64 < cLine) : MtR X "dict.get" rGet1 := by
  intro pins s σ H x xs v us Q I rx rxs h
  obtain ⟨a, y, o, rfl, rfl, g, q⟩ := h
  obtain rfl : v = Value.ref a := rx
  obtain ⟨u, rfl, ry⟩ := Vals.one rxs
  exact d_get1 (by omega) I g ry fun w' s' I' rw' => ⟨_, H, I', rw', q⟩
theorem mt_get2 {X : Cx} (hu : X.A.units + 64 < cLine) : MtR X "dict.get" rGet2 := by
  intro pins s σ H x xs v us Q I rx rxs h
  obtain ⟨a, y, z, o, rfl, rfl, g, q⟩ := h
  obtain rfl : v = Value.ref a := rx
  obtain ⟨u, w, rfl, ry, rz⟩ := vals2 rxs
  exact d_get2 (by omega) I g ry rz fun w' s' I' rw' => ⟨_, H, I', rw', q⟩
theorem ok_get1 : OpOk K (m2n rGet1) opGet := by
  intro vs ds H Q d pk h hQ
  unfold opGet at h
  split at h
  · split at h
    · rename_i c
      cases h
      obtain ⟨v, u, F, G, rfl, r1, r2⟩ := pk.two
      obtain ⟨a, o, rfl, g1, _, ⟨w, q', rfl, h3, h4⟩ | ⟨rfl, h3⟩⟩ := dget_of r1 r2 c
      · rw [h3] at hQ
        exact ⟨_, _, rfl, a, u, _, rfl, rfl, g1, fin_imm (r := True) hQ h4⟩
      · rw [h3] at hQ
        exact ⟨_, _, rfl, a, u, _, rfl, rfl, g1, fin_imm (r := True) hQ .non⟩
    · cases h
  · cases h
theorem ok_get2 : OpOk K (m2n rGet2) opGet2 := by
  intro vs ds H Q d pk h hQ
  unfold opGet2 at h
  split at h
  · split at h
    · rename_i c
      cases h
      obtain ⟨v, u, z, F, G, L, rfl, r1, r2, r3⟩ := pk.three
      obtain ⟨r3, _⟩ := r3.imm_of
      obtain ⟨a, o, rfl, g1, _, ⟨w, q', rfl, h3, h4⟩ | ⟨rfl, h3⟩⟩ := dget_of r1 r2 c
      · rw [h3] at hQ
        exact ⟨_, _, rfl, a, u, z, _, rfl, rfl, g1, fin_imm (r := True) hQ h4⟩
      · rw [h3] at hQ
        exact ⟨_, _, rfl, a, u, z, _, rfl, rfl, g1, fin_imm (r := True) hQ r3⟩
    · cases h
  · cases h
end
end Sw
set_option maxHeartbeats 1000000
/-! Sw, part 7e: sorted of a text, of a dict's keys. -/
namespace Sw
open PySem PySem.Spec PyProof.Rows L2
section
variable {K : PySem.W.Frag} {H : Hp}
/-- sorted(text), sorted(dict) -/
def rSortX (K : PySem.W.Frag) : List V → Hp → VK → Prop := fun vs H Q => ∃ v xs ps, vs = [v] ∧ ((∃ z : Str, v = .str z ∧ z.length ≤ sizeLine ∧ xs = z.cps.toList.map fun c => V.str ⟨#[c]⟩) ∨ (∃ a kv, v = .ref a ∧ H a = some (.dK kv) ∧ xs = kv.map fun q : L2.Key × V => kV q.1)) ∧ PReps K H xs ps ∧ sortOk ps = true ∧
  ∀ ys p, PReps K H ys (sortD ps) → H p = none → Q (.ref p) (upd H p (.lst ys))
/-- collected, sorted -/
theorem sorted_col {X : Cx} {pins : List (Addr × Obj)} {σ : L2.St} {s : Shared} {xs : List V} {ps : List P} {Q : VK} {u : Value} (hu : X.A.units + 64 < cLine) (I : Inv X pins σ H s) (hp : PReps X.K H xs ps) (ho : sortOk ps = true)
    (q : ∀ ys p, PReps X.K H ys (sortD ps) → H p = none → Q (.ref p) (upd H p (.lst ys)))
    (hc : ∀ (R : List Value → Shared → Prop) (E : Value → Shared → Prop), (∀ (h' : Heap) (tk : Nat) (acc : List Value), (∀ b o, s.heap.get? b = some o → h'.get? b = some o) → Vals xs acc → R acc { s with heap := h', toks := tk }) → wpAny (model X.prog X.w) X.A.in1 (collect u) R E s) {E : Value → Shared → Prop} :
    wpAny (model X.prog X.w) X.A (call (.builtin "sorted") [u]) (fun v s' => EP X pins σ Q v s') E s := by
  have hl := hp.length
  obtain ⟨s1, s2, s3, s4⟩ := sortOk_of hl ho
  refine call_function_entry_kw kind_sorted plain_sorted entry_sorted (args_sorted1 _) ?_
  unfold Builtin.«sorted»
  refine wpAny_bind (m := checkCount "sorted" 1 1 _) (wpAny_pure ?_)
  refine wpAny_bind (hc _ _ fun h' tk acc hk rv => ?_)
  have I1 : Inv X pins σ H { s with heap := h', toks := tk } := I.kept hk
  have hbl : acc.length ≤ sizeLine := by rw [← rv.length, hl]; exact le_line s3
  refine wpAny_bind (wpAny_newList ?_ hbl)
  have hoL : (h'.push (seqObj "list" acc.toArray 0)).get? h'.objs.size = some (seqObj "list" acc.toArray 0) := Heap.get?_push_size _ rfl
  show wpAny _ _ _ _ _ { s with heap := h'.push (seqObj "list" acc.toArray 0), toks := tk }
  have hkk : ∀ b o, h'.get? b = some o → (PySem.W.sortingHeap (h'.push (seqObj "list" acc.toArray 0)) h'.objs.size acc).get? b = some o := fun b o e => PySem.W.sortingHeap_old (Nat.ne_of_lt (Heap.lt_size e)) (Heap.get?_push_of_some _ e)
  have er' : PySem.W.EachIs (fun v (b : V × P) => ∃ as, Reads (PySem.W.sortingHeap (h'.push (seqObj "list" acc.toArray 0)) h'.objs.size acc) v (toPy b.2) as) acc (xs.zip ps) := (each_reads I1 rv hp).mono fun _ _ ⟨as, r⟩ => ⟨as, PyProof.Rows.Reads.keeps hkk r⟩
  have hul : ∀ b, b ∈ xs.zip ps → X.A.in1.in1.units + (toPy b.2).depth < cLine := fun b hb => by
    have := s4 b hb
    have : X.A.in1.in1.units = X.A.units + 1 + 1 := rfl
    omega
  refine wpAny_bind (wpAny_holding (wpAny_call_entry PyProof.Rows.slot_list_sort ⟨_, hoL, rfl⟩ PyProof.Rows.entry_list_sort
    (PySem.W.list_sort_vals (s := { s with heap := h'.push (seqObj "list" acc.toArray 0), toks := tk }) hoL
      (PySem.W.SortsAt.data (s := { s with heap := PySem.W.sortingHeap (h'.push (seqObj "list" acc.toArray 0)) h'.objs.size acc, toks := tk }) (PySem.W.each_map (R := fun v d => ∃ as, Reads (PySem.W.sortingHeap (h'.push (seqObj "list" acc.toArray 0)) h'.objs.size acc) v d as) (fun b : V × P => toPy b.2) er') s1 s2 (PySem.W.bound_map hul)) hbl ⟨_, rfl, ?_⟩)
    (PyProof.Rows.args_list_sort _)))
  have hz : (xs.zip ps).length = ps.length := by rw [List.length_zip, hl, Nat.min_self]
  have ho2 := PySem.W.sortVals_data (R := fun v (b : V × P) => RelV b.1 v) (enc := fun b : V × P => toPy b.2) false (each_vals rv hl) er' s1
  obtain ⟨ep, he'⟩ := PyProof.Rows.sortedHeap_at (vs := acc) (out := (PySem.W.sortVals (PySem.W.dataKind (PySem.W.sortingHeap (h'.push (seqObj "list" acc.toArray 0)) h'.objs.size acc) ((xs.zip ps).map fun b => toPy b.2)) false acc acc).toArray) hoL
  have e2 : ((xs.zip ps).mergeSort (PySem.W.dataLe false fun b => toPy b.2)).map (·.2) = sortD ps := by
    have h1 := List.map_mergeSort (r := PySem.W.dataLe false fun b : V × P => toPy b.2) (s := fun a b => !ltD b a) (f := (·.2)) (l := xs.zip ps) (fun a _ b _ => rfl)
    rw [h1, zip_snd hl]
    rfl
  have hall : ∀ b ∈ (xs.zip ps).mergeSort (PySem.W.dataLe false fun b => toPy b.2), PRep X.K H b.1 b.2 := fun b hb => reps_zip hp b ((List.mergeSort_perm _ _).mem_iff.mp hb)
  have hr := reps_of_all hall
  rw [e2] at hr
  have hlen : (((xs.zip ps).mergeSort (PySem.W.dataLe false fun b => toPy b.2)).map (·.1)).length ≤ sizeLine := by
    rw [List.length_map, (List.mergeSort_perm _ _).length_eq, hz]
    exact le_line s3
  refine wpAny_pure ⟨_, rfl, .ref h'.objs.size, upd H h'.objs.size (.lst (((xs.zip ps).mergeSort (PySem.W.dataLe false fun b => toPy b.2)).map (·.1))), I1.laid (t' := tk) (fun b u e => ?_) (Nat.le_refl _)
    ⟨hlen, _, ep, vals_each ho2, he'⟩, rfl, q _ _ hr (I1.hok.fresh (Nat.le_refl _))⟩
  have hb : b < h'.objs.size := Heap.lt_size e
  rw [PyProof.Rows.sortedHeap_old (Nat.ne_of_lt hb) (by rw [size_push']; exact Nat.lt_succ_of_lt hb)]
  exact Heap.get?_push_of_some _ e
theorem cr_sortX {X : Cx} (hcalm : X.calm = true) (hu : X.A.units + 64 < cLine) : CallR X (.builtin "sorted") (rSortX X.K) := by
  intro pins s σ H vs us Q I r h
  obtain ⟨v, xs, ps, rfl, hs, hp, ho, q⟩ := h
  obtain ⟨u, rfl, ru⟩ := Vals.one r
  have hh := I.ok.hd hcalm
  refine sorted_col hu I hp ho q fun R E hR => ?_
  rcases hs with ⟨z, rfl, hz, rfl⟩ | ⟨a, kv, rfl, ha, rfl⟩
  · obtain ⟨t, rfl⟩ := ru
    refine wpAny_collect_str (A := X.A.in1) (show X.A.in1.handled = none from hh) z t (fun s' acc hk hg hd' hos hacc => ?_) hz
    obtain ⟨h', g', d', tk', os'⟩ := s'
    cases hg
    cases hd'
    cases hos
    exact hR h' tk' acc.toList hk (vals_signs hacc)
  · cases ru
    obtain ⟨z, lo, vs, rel, dd⟩ := dk_rd I.hok (.inl ha)
    obtain ⟨ep, hat⟩ := dd.dictAt
    have ek : (kv.map fun kv => kV kv.1) = vs.map fun p => kV p.1 := by
      have e := congrArg (List.map kV) rel.keys
      rw [List.map_map, List.map_map] at e
      exact e
    refine PySem.W.kdu_collect (A := X.A.in1) (PySem.W.kdl_dict (knd := mixKind X.prog X.w) (kvs := vs) (ep := ep) lo) hh hat (by rw [← rel.length]; exact z) fun h' tk acc hk hacc => ?_
    refine hR h' tk acc.toList hk ?_
    rw [ek]
    exact keys_at (by rw [Array.length_toList]; exact hacc.1) fun j v e => hacc.2 j v (by rw [← Array.getElem?_toList]; exact e)
def rSort2 (K : PySem.W.Frag) : List V → Hp → VK → Prop := fun vs H Q => rSortD K vs H Q ∨ rSortX K vs H Q
theorem cr_sort2 {X : Cx} (hcalm : X.calm = true) (hu : X.A.units + 64 < cLine) : CallR X (.builtin "sorted") (rSort2 X.K) := fun pins s σ H vs us Q I r h => h.elim (cr_sortD hu pins s σ H vs us Q I r) (cr_sortX hcalm hu pins s σ H vs us Q I r)
theorem key_rep {H : Hp} {k : L2.Key} {p : P} (r : KRep k p) : PRep K H (kV k) p := by
  cases r with
  | int i => exact .int i
  | str s c => exact .str s c
theorem keys_rep {H : Hp} : ∀ {kv : List (L2.Key × V)} {kvs : List (P × P)}, Paired (fun x y => KRep x.1 y.1 ∧ PRep K H x.2 y.2) kv kvs → PReps K H (kv.map fun q => kV q.1) (kvs.map (·.1))
  | _, _, .nil => .nil
  | _, _, .cons r t => .cons (key_rep r.1) (keys_rep t)
theorem ok_sort2 : OpOk K (rSort2 K) (opSem .sorted) := by
  intro vs ds H Q d pk h hQ
  match ds, pk, h with
  | [x], pk, h =>
    obtain ⟨v, F, rfl, r1⟩ := pk.one
    obtain ⟨ps, h1, h2⟩ := bind_some (show opSorted x = some d from h)
    split at h2
    · rename_i ho
      cases h2
      have sq : seqOf x = some ps → rSort2 K [v] H Q := fun h1 => by
        obtain ⟨xs, hs, q1⟩ := r1.sq_both h1
        exact .inl ⟨v, xs, ps, rfl, hs, q1, ho, fun ys p hy hp => fin_lst hQ hp hy⟩
      match x, h1, r1 with
      | .imm (.str s), h1, r1 =>
        obtain ⟨rfl, c1⟩ := r1.str_of
        cases h1
        refine .inr ⟨_, _, _, rfl, .inl ⟨_, rfl, ?_, rfl⟩, signs_rep c1, ho, fun ys p hy hp => fin_lst hQ hp hy⟩
        have := (sortOk_of (xs := (s.map fun c => V.str ⟨#[c]⟩)) (by simp) ho).2.2.1
        rw [List.length_map] at this
        rw [sOf_len]
        exact le_line this
      | .dic false kvs, h1, r1 =>
        cases h1
        cases r1 with
        | dicK e r => exact .inr ⟨_, _, _, rfl, .inr ⟨_, _, rfl, e, rfl⟩, keys_rep r, ho, fun ys p hy hp => fin_lst hQ hp hy⟩
      | .dic true kvs, h1, r1 => cases h1
      | .lst ps', h1, r1 => exact sq h1
      | .imm (.tup _), h1, r1 => exact sq h1
      | .imm (.lst _), h1, r1 => exact sq h1
      | .imm .non, h1, r1 => cases h1
      | .imm (.bl _), h1, r1 => cases h1
      | .imm (.int _), h1, r1 => cases h1
    · cases h2
end
end Sw
set_option maxHeartbeats 1000000
/-! Sw, part 8: index, isinstance, slices, changes of lists. -/
namespace Sw
open PySem PySem.Spec PyProof.Rows L2
section
variable {K : PySem.W.Frag} {H : Hp}
theorem lay_plain {d : PyData} (h : d.canLay0 = true) : d.plain = true := PyData.plain_of_canLay0 d h
theorem layAll_plain {ds : List PyData} (h : PyData.canLayAll0 ds = true) : PyData.plainAll ds = true := by
  have := lay_plain (d := .list ds) (by simpa [PyData.canLay0] using h)
  simpa [PyData.plain] using this
/-! ### x.index(y) -/
theorem mt_indexP {X : Cx} (hu : X.A.units + 64 < cLine) : MtR X "list.index" (rIndexP X.K) := by
  intro pins s σ H x xs v us Q I rx rxs h
  obtain ⟨a, y, d, ds, j, z, rfl, rfl, hl, hy, hxs, sd, hm, hz, hzj, hno, q⟩ := h
  cases rx
  cases rxs with
  | cons ry rt =>
    rename_i uy ut
    cases rt
    obtain ⟨bs, r1⟩ := Dp.reads I d y uy hy ry
    have hroom : X.A.units + 1 + min (PyData.depthAll ds) d.depth < cLine := by omega
    cases hl with
    | lst hs ha =>
      obtain ⟨its, rv, ⟨⟨cls, dd, data, sls⟩, n, ho, hc, hdn, hdt⟩, hlen⟩ := I.list hs
      simp only at hc hdt
      subst hc hdt
      obtain ⟨as, h4⟩ := Dp.readsAll I ds _ its ha rv
      have hn : its.length = ds.length := SeqAt.ReadsAll.length ds its as h4
      have hmap : its.map (SeqAt.readOf s.heap) = ds := SeqAt.readsAll_map ds its as hxs h4
      have hvl := rv.length
      have hsl := sizeLine_is
      obtain ⟨hjd, _⟩ := List.getElem?_eq_some_iff.mp hz
      have hjl : j < its.length := by omega
      have hj : j < its.toArray.size := by simpa using hjl
      have at_ : ∀ (m : Nat) (hm : m < its.toArray.size) (z' : PyData), ds[m]? = some z' → SeqAt.readOf s.heap its.toArray[m] = z' := by
        intro m hm z' hz'
        have hml : m < its.length := by simpa using hm
        rw [← hmap, List.getElem?_map, List.getElem?_eq_getElem hml] at hz'
        have e1 : SeqAt.readOf s.heap its[m] = z' := Option.some.inj (show some (SeqAt.readOf s.heap its[m]) = some z' from hz')
        simpa using e1
      refine call_meets PySem.F.slot_list_index ⟨_, ho, rfl⟩ PySem.F.entry_list_index (PySem.F.args_list_index_2 _ _)
        (SeqAt.list_indexAt a its.toArray n dd sls uy (fun u => PyData.eqv (SeqAt.readOf s.heap u) d) j hj (by omega) ?_ ?_) ⟨ho, SeqAt.items_eqAt (vs := its.toArray) (show ReadsAll s.heap its.toArray.toList ds as from h4) r1 hxs sd hroom, ?_⟩
      · show PyData.eqv (SeqAt.readOf s.heap its.toArray[j]) d = true
        rw [at_ j hj z hz]
        exact hzj
      · intro m hm hmj
        have hmd : m < ds.length := by omega
        have hz' : ds[m]? = some ds[m] := List.getElem?_eq_getElem hmd
        show PyData.eqv (SeqAt.readOf s.heap its.toArray[m]) d = false
        rw [at_ m hm _ hz']
        exact hno m _ hmj hz'
      · exact ⟨.int (j : Nat), H, I.tok _, ⟨_, rfl⟩, q⟩
theorem ok_index : OpOk K (m2n (rIndexP K)) (opSem .index) := by
  intro vs ds H Q d pk h hQ
  match ds, pk, h with
  | [x, y], pk, h =>
    obtain ⟨v, u, F, G, rfl, r1, r2⟩ := pk.two
    have h : opIndex x y = some d := h
    unfold opIndex at h
    split at h
    all_goals first
      | (cases h; done)
      | (split at h
         · rename_i c
           obtain ⟨k, h1, h2⟩ := bind_some h
           obtain rfl := ii_inv h2
           obtain ⟨q2, _⟩ := r2.imm_of
           obtain ⟨⟨z, g1, g2⟩, g3⟩ := idxOf_spec _ h1
           have hd := r1.dp rfl
           have hl := r1.lay rfl
           obtain ⟨a, xs, rfl, s1, q1⟩ := r1.list_of rfl
           exact ⟨_, _, rfl, a, u, toPy _, toPys _, k, z, rfl, rfl, hd, q2.dp, by simpa [rd, toPy, PyData.canLay0] using hl, q2.lay, by rw [depth_py, depths_py]; exact c, g1, g2, g3, fin_imm (r := True) hQ (.int _)⟩
         · cases h)
/-! ### isinstance -/
def tyName : Ty → String
  | .int => "int"
  | .bool => "bool"
  | .str => "str"
  | .tuple => "tuple"
  | .list => "list"
def isTyD (d : PyData) : Ty → Bool
  | .int => d.isInt
  | .bool => d.isBool
  | .str => d.isStr
  | .tuple => d.isTuple
  | .list => d.isList
theorem isTy_py (p : P) (t : Ty) : isTyD (toPy p) t = isTy p t := by
  cases t <;> cases p <;> simp [isTyD, isTy, toPy, PyData.isInt, PyData.isBool, PyData.isStr, PyData.isTuple, PyData.isList]
def tyOfD : PyData → String
  | .none => "NoneType"
  | .bool _ => "bool"
  | .int _ => "int"
  | .str _ => "str"
  | .list _ => "list"
  | .tuple _ => "tuple"
  | .dict _ => "dict"
theorem kit_tab (t : Ty) : kitB "NoneType" (tyName t) = some false ∧ kitB "bool" (tyName t) = some (isTyD (.bool true) t) ∧ kitB "int" (tyName t) = some (isTyD (.int 0) t) ∧ kitB "str" (tyName t) = some (isTyD (.str Str.empty) t) ∧
    kitB "list" (tyName t) = some (isTyD (.list []) t) ∧ kitB "tuple" (tyName t) = some (isTyD (.tuple []) t) := by
  cases t <;> decide +kernel
theorem kit_d {K : PySem.W.Frag} {H : Hp} {v : V} {d : PyData} (h : Dp K H v d) (t : Ty) : PySem.W.kitOne K (.type (tyOfD d)) (.type (tyName t)) = some (isTyD d t) := by
  have e := kit_tab t
  cases h with
  | non => exact kit_ty (e.1.trans (by cases t <;> rfl))
  | bl b => exact kit_ty (e.2.1.trans (by cases t <;> rfl))
  | int i => exact kit_ty (e.2.2.1.trans (by cases t <;> rfl))
  | str x => exact kit_ty (e.2.2.2.1.trans (by cases t <;> rfl))
  | lst _ _ => exact kit_ty (e.2.2.2.2.1.trans (by cases t <;> rfl))
  | tup _ _ => exact kit_ty (e.2.2.2.2.2.trans (by cases t <;> rfl))
theorem dp_ty {K : PySem.W.Frag} {H : Hp} {v : V} {d : PyData} (h : Dp K H v d) : TyX K H v (.type (tyOfD d)) := by
  cases h with
  | non => exact .base .non
  | bl b => exact .base (.bl b)
  | int i => exact .base (.int i)
  | str x => exact .base (.str x)
  | lst s _ =>
    rcases s with (s | ⟨o, s⟩) | ⟨o, its, n, h1, h2, _⟩
    · exact .base (.lst s)
    · exact .base (.frz s)
    · exact .kList h1 h2
  | tup s _ =>
    rcases s with (s | ⟨o, s⟩) | ⟨o, its, n, h1, h2, _⟩
    · exact .base (.tup s)
    · exact .fTuple s
    · exact .kTuple h1 h2
theorem kitAny_d {K : PySem.W.Frag} {H : Hp} {v : V} {d : PyData} (h : Dp K H v d) : ∀ ts : List Ty, PySem.W.kitAny K (.type (tyOfD d)) (ts.map fun t => .type (tyName t)) = some (ts.any (isTyD d))
  | [] => rfl
  | t :: ts => kitAny_cons (b := isTyD d t) (kit_d h t) (fun e => by rw [kitAny_d h ts, List.any_cons, e] <;> rfl) fun e => by rw [List.any_cons, e] <;> rfl
theorem isi_one {K : PySem.W.Frag} {H : Hp} {v : V} {x : D} {F : List Addr} {t : Ty} {Q : VK} (r : Rep K H v x F) (nd : isDic x = false) (q : Q (.bl (isTy (rd x) t)) H) : rIsi K [v, .ty (tyName t)] H Q :=
  ⟨v, .ty (tyName t), _, _, _, rfl, .ty _, dp_ty (r.dp nd), kit_d (r.dp nd) t, by rw [isTy_py]; exact q⟩
theorem pair_tys : ∀ ts : List Ty, Paired ClsV (ts.map fun t => V.ty (tyName t)) (ts.map fun t => Value.type (tyName t))
  | [] => .nil
  | t :: ts => .cons (.ty _) (pair_tys ts)
theorem isi_many {K : PySem.W.Frag} {H : Hp} {v : V} {x : D} {F : List Addr} {ts : List Ty} {tp : Addr} {Q : VK} (r : Rep K H v x F) (nd : isDic x = false) (h : H tp = some (.tup (ts.map fun t => .ty (tyName t)))) (q : Q (.bl (ts.any (isTy (rd x)))) H) : rIsiT K [v, .ref tp] H Q := by
  refine ⟨v, tp, _, _, ts.map fun t => .type (tyName t), _, rfl, h, ?_, dp_ty (r.dp nd), kitAny_d (r.dp nd) ts, ?_⟩
  · exact pair_tys ts
  · have e : ts.any (isTyD (toPy (rd x))) = ts.any (isTy (rd x)) := by
      congr 1
      funext t
      exact isTy_py _ _
    rw [e]
    exact q
end
end Sw
set_option maxHeartbeats 1000000
/-! Sw, part 9: slices, truth, changes. -/
namespace Sw
open PySem PySem.Spec PyProof.Rows L2
section
variable {K : PySem.W.Frag} {H : Hp}
theorem sIxP_eq (n d : Nat) (o : Option Int) : sIxP n d o = HT.sIx n d o := by cases o <;> rfl
theorem cutV_rep {vs : List V} {ps : List P} (h : PReps K H vs ps) (lo hi : Option Int) : PReps K H (cutV vs lo hi) (cutP ps lo hi) := by
  unfold cutV cutP
  rw [sIxP_eq, sIxP_eq, h.length]
  exact (h.drop _).take _
theorem cutS_eq (s : List Nat) (lo hi : Option Int) : cutS (sOf s) lo hi = sOf (cutP s lo hi) := by
  unfold cutS cutP
  rw [sIxP_eq, sIxP_eq, sOf_cps, sOf_len] <;> rfl
theorem cutP_mem {α : Type} {xs : List α} {lo hi : Option Int} : ∀ x ∈ cutP xs lo hi, x ∈ xs := fun x h => List.mem_of_mem_drop (List.mem_of_mem_take h)
def rSlcD (K : PySem.W.Frag) : V → Option Int → Option Int → Hp → VK → Prop := fun x lo hi H Q => rSlL K x lo hi H Q ∨ rSlA K x lo hi H Q ∨ rSlS x lo hi H Q
theorem sl_D {X : Cx} : SlR X (rSlcD X.K) := sl_list.or (sl_tupA.or sl_str)
theorem slc_ok {v : V} {x d : D} {F : List Addr} {lo hi : Option Int} {Q : VK} (r : Rep K H v x F) (h : slcSem x lo hi = some d)
    (hQ : ∀ v H' F, Same H H' → Rep K H' v d F → (∀ a ∈ F, H a = none) → F.Nodup → Q v H') : rSlcD K v lo hi H Q := by
  unfold slcSem at h
  split at h
  · split at h
    · rename_i c
      cases h
      obtain ⟨rfl, c1⟩ := r.str_of
      refine .inr (.inr ⟨_, rfl, by rw [sOf_len]; exact le_line c, ?_⟩)
      rw [cutS_eq]
      exact fin_imm (r := True) hQ (.str _ (chrOk_sub c1 cutP_mem))
    · cases h
  · cases h
    obtain ⟨a, xs, rfl, s1, q1⟩ := r.tup_st
    refine .inr (.inl ⟨a, xs, rfl, SqT.of s1, fun e => ?_, fun _ p hp => fin_tup hQ hp (cutV_rep q1 lo hi)⟩)
    rename_i ps
    have e2 : cutP ps lo hi = ps := by
      unfold cutP
      rw [sIxP_eq, sIxP_eq, ← q1.length, e.1, e.2, q1.length]
      simp
    rw [e2] at hQ
    exact fin_imm (r := True) hQ (.tup s1 q1)
  · cases h
    obtain ⟨a, xs, rfl, s1, q1⟩ := r.flst_of
    exact .inl ⟨a, xs, rfl, s1.sql, fun p hp => fin_lst hQ hp (cutV_rep q1 lo hi)⟩
  · cases h
    obtain ⟨a, xs, rfl, s1, q1, _⟩ := r.lst_of
    exact .inl ⟨a, xs, rfl, SqL.of s1, fun p hp => fin_lst hQ hp (cutV_rep q1 lo hi)⟩
  · cases h
/-! ### x[::-1] -/
section
variable {prog : Program} {w : World} {A : Around} {E : Value → Shared → Prop} {s : Shared}
theorem sliceApplied_rev {sl : Addr} {vs : Value} {n : Nat} {Q : Int × Int × Nat → Shared → Prop} (hs : s.heap.IsSliceOf sl .none .none vs) (pv : IsPart vs (some (-1)))
    (h : Q ((n : Int) - 1, -1, n) s) : wpAny (model prog w) A (Builtin.Slice.sliceApplied (.ref sl) (pure (n : Int))) Q E s := by
  obtain ⟨os, hos, hcs, hds⟩ := id hs
  unfold Builtin.Slice.sliceApplied Builtin.Slice.sliceFields
  refine wpAny_bind (wpAny_bind (wpAny_field hos hds (x := .none) rfl (wpAny_bind (wpAny_field hos hds (x := .none) rfl (wpAny_bind (wpAny_field hos hds (x := vs) rfl (wpAny_pure ?_)))))))
  refine wpAny_bind (HT.slicePart_ pv ?_)
  show wpAny _ _ (if ((-1 : Int) == 0) = true then _ else _) _ _ s
  rw [if_neg (by decide)]
  refine wpAny_bind (slicePart_none (wpAny_bind (slicePart_none (wpAny_bind (wpAny_pure ?_)))))
  have e : Builtin.Slice.slicePlaces ((n : Int) - 1) (-1) (-1) = n := by
    unfold Builtin.Slice.slicePlaces
    rw [if_neg (by decide)]
    by_cases c : (n : Int) - 1 > -1
    · rw [if_pos c, show (- -1 : Int) = 1 by decide, Int.ediv_one]; omega
    · rw [if_neg c]; omega
  show wpAny _ _ (pure ((n : Int) - 1, (-1 : Int), Builtin.Slice.slicePlaces ((n : Int) - 1) (-1) (-1))) _ _ s
  rw [e]
  exact wpAny_pure h
theorem fm_congr {α β : Type} {f g : α → Option β} : ∀ {l : List α}, (∀ x ∈ l, f x = g x) → l.filterMap f = l.filterMap g
  | [], _ => rfl
  | x :: l, h => by
    rw [List.filterMap_cons, List.filterMap_cons, h x List.mem_cons_self, fm_congr fun y z => h y (List.mem_cons_of_mem _ z)]
theorem pick_rev (xs : Array Value) : ((List.range xs.size).filterMap fun (m : Nat) => xs[((xs.size : Int) - 1 + (m : Int) * (-1)).toNat]?).toArray = xs.toList.reverse.toArray := by
  have e := PySem.W.krv_all xs
  have e2 := PySem.W.krv_range xs.size
  congr 1
  rw [← e, ← List.filterMap_reverse, ← e2, List.filterMap_map]
  apply fm_congr
  intro m hm
  have := List.mem_range.mp hm
  show xs[_]? = xs[xs.size - 1 - m]?
  congr 1
  omega
theorem getItem_tuple_rev {t sl : Addr} {items : Array Value} {vs : Value} {Q : Value → Shared → Prop} (ht : IsTup s.heap t items) (hs : s.heap.IsSliceOf sl .none .none vs) (pv : IsPart vs (some (-1)))
    (h : Q (.ref s.heap.objs.size) { s with heap := s.heap.push { cls := .type "tuple", data := .seq items.toList.reverse.toArray } })
    (hsz : items.size ≤ sizeLine) : wpAny (model prog w) A (getItem (.ref t) (.ref sl)) Q E s := by
  have htake : sizeOk (.seq items.toList.reverse.toArray) := by
    show items.toList.reverse.toArray.size ≤ sizeLine
    rw [List.size_toArray, List.length_reverse, Array.length_toList]
    exact hsz
  obtain ⟨os, hos, hcs, hds⟩ := id hs
  have hTs : s.TypeIs (.ref sl) "slice" := ⟨os, hos, hcs⟩
  unfold getItem
  try with_reducible refine wpAny_holding ?_
  first | refine wpAny_bind (wpAny_pure ?_) | skip
  refine wpAny_bind (wpAny_sequenceKey ht.typeIs (by decide) ?_)
  refine wpAny_bind (wpAny_callSpecial?_slot (name := Str.ofString "__getitem__") ht.typeIs PyProof.Rows.slot_tuple_getitem
    (wpAny_call_entry PyProof.Rows.slot_tuple_getitem ht.typeIs entry_tuple_getitem ?_ (args_tuple_getitem _ _)))
  show wpAny _ _ (Builtin.Tuple.tupleItemsOf (.ref t) >>= _) _ _ s
  refine wpAny_bind (tupleItemsOf_ ht ?_)
  refine wpAny_bind (wpAny_typeOf hTs ?_)
  rw [if_pos (by decide)]
  refine wpAny_bind (sliceApplied_rev hs pv ?_)
  show wpAny _ _ (if (((items.size : Int) - 1) == 0 && (-1 : Int) == 1 && items.size == items.size) = true then _ else _) _ _ s
  rw [if_neg (by simp), pick_rev]
  first
    | exact wpAny_bind (m := Builtin.Tuple.tupleExact _) (wpAny_newObj_type (wpAny_pure ⟨_, rfl, wpAny_pure h⟩) htake)
    | exact wpAny_bind (m := Builtin.Tuple.tupleExact _) (wpAny_newObj_type (wpAny_bind (wpAny_pure (wpAny_pure ⟨_, rfl, wpAny_pure h⟩))) htake)
    | exact wpAny_bind (wpAny_bind (m := Builtin.Tuple.tupleExact _) (wpAny_newObj_type (wpAny_pure (wpAny_pure ⟨_, rfl, wpAny_pure h⟩)) htake))
    | exact wpAny_bind (wpAny_bind (m := Builtin.Tuple.tupleExact _) (wpAny_newObj_type (wpAny_pure ⟨_, rfl, wpAny_pure h⟩) htake))
end
def rRevD (K : PySem.W.Frag) : V → Hp → VK → Prop := fun x H Q => (∃ a xs, x = .ref a ∧ SqL K H a xs ∧ ∀ p, H p = none → Q (.ref p) (upd H p (.lst xs.reverse))) ∨
  (∃ a xs, x = .ref a ∧ SqT K H a xs ∧ ∀ p, H p = none → Q (.ref p) (upd H p (.tup xs.reverse))) ∨ ∃ z : Str, x = .str z ∧ z.length ≤ sizeLine ∧ Q (.str ⟨z.cps.toList.reverse.toArray⟩) H
theorem pick_revS (z : Str) : ((Builtin.Str.strSliceIndices none none (-1) z.length).filterMap (z.cps[·]?)).toArray = z.cps.toList.reverse.toArray := by
  have e : Builtin.Str.strSliceIndices none none (-1) z.length = (List.range z.length).map fun k => z.length - 1 - k := by
    rw [← PySem.W.krv_sliceRange]
    rfl
  rw [e]
  have e1 := PySem.W.krv_range z.length
  have e2 := PySem.W.krv_all z.cps
  rw [e1, List.filterMap_reverse]
  show ((List.range z.cps.size).filterMap (z.cps[·]?)).reverse.toArray = _
  rw [e2]
/-- st: an expression that is -1 -/
theorem pe_revD {X : Cx} {e st : Expr} {te : TE} {tst : TO} {p3 pos : Pos} (he : PE X e te) (hst : PO X (some st) tst) (h1 : ∀ σ H (Q : Option Int → Hp → Prop), Q (some (-1)) H → tst σ H Q) :
    PE X (.Subscript e (.Slice none none (some st) p3) pos) (tUn (rRevD X.K) te) := by
  refine ⟨fun pins s σ H Q I h => ?_⟩
  refine Subscript_ (thn (he.run pins s σ H _ I h) fun v s1 ⟨x, H1, I1, r1, q1⟩ => ?_)
  refine wpAny_Slice (thn (po_none.run pins s1 σ H1 (fun o H2 => o = none ∧ H2 = H1) I1 ⟨rfl, rfl⟩) fun vl s2 ⟨l, H2, I2, pl, el, e2⟩ => ?_)
  subst el e2
  refine thn (po_none.run pins s2 σ H2 (fun o H3 => o = none ∧ H3 = H2) I2 ⟨rfl, rfl⟩) fun vu s3 ⟨u, H3, I3, pu, eu, e3⟩ => ?_
  subst eu e3
  refine thn (hst.run pins s3 σ H3 (fun o H4 => o = some (-1) ∧ H4 = H3) I3 (h1 _ _ _ ⟨rfl, rfl⟩)) fun vs s4 ⟨o, H4, I4, ps, eo, e4⟩ => ?_
  subst eo e4
  have I5 : Inv X pins σ H4 { s4 with heap := s4.heap.push { cls := .type "slice", data := .fields #[vl, vu, vs] } } := I4.kept (t' := s4.toks) fun b ob q => Heap.get?_push_of_some _ q
  have vl0 : vl = .none := by cases pl; rfl
  have vu0 : vu = .none := by cases pu; rfl
  subst vl0 vu0
  show wpAny (model X.prog X.w) X.A (subscriptTail e (.Slice none none (some st) p3) v (.ref s4.heap.objs.size)) (EP X pins σ Q) X.xe { s4 with heap := s4.heap.push { cls := .type "slice", data := .fields #[.none, .none, vs] } }
  rcases q1 with ⟨a, xs, ex, hx, q⟩ | ⟨a, xs, ex, hx, q⟩ | ⟨z, ex, hz, q⟩
  · subst ex
    cases r1
    obtain ⟨its, r, ht, hz⟩ := I5.list hx
    have hlen := r.length
    refine tail_any (ops := [.ref a, .ref s4.heap.objs.size]) ht.isList.typeIs (PySem.slot_list_getitem.lookup) ?_ (by with_unfolding_all rfl)
    refine wpAny_getItem_list_slice ht.isList (Heap.IsSliceOf.new _ .none .none vs) pl pu ps (by decide) ?_ (by rw [List.size_toArray]; omega)
    rw [PySem.W.krv_pick]
    refine ⟨.ref _, _, I5.laid (t' := s4.toks) (o := .lst xs.reverse) (fun b ob q => Heap.get?_push_of_some _ q) (Nat.le_refl _) ?_, rfl, q _ (I5.hok.fresh (Nat.le_refl _))⟩
    exact ⟨by rw [List.length_reverse]; exact hz, _, 0, r.reverse, Heap.get?_push_size _ rfl⟩
  · subst ex
    cases r1
    obtain ⟨its, r, ht, hz⟩ := I5.tuple hx
    have hlen := r.length
    refine tail_any (ops := [.ref a, .ref s4.heap.objs.size]) ht.typeIs (PyProof.Rows.slot_tuple_getitem.lookup) ?_ (by with_unfolding_all rfl)
    refine getItem_tuple_rev ht (Heap.IsSliceOf.new _ .none .none vs) ps ?_ (by rw [List.size_toArray]; omega)
    refine ⟨.ref _, _, I5.laid (t' := s4.toks) (o := .tup xs.reverse) (fun b ob q => Heap.get?_push_of_some _ q) (Nat.le_refl _) ?_, rfl, q _ (I5.hok.fresh (Nat.le_refl _))⟩
    exact ⟨by rw [List.length_reverse]; exact hz, its.reverse, r.reverse, _, Heap.get?_push_size _ rfl, rfl, 0, by simp⟩
  · subst ex
    obtain ⟨t, rfl⟩ := r1
    obtain ⟨st', rfl, e7⟩ := IsPart.raw ps
    refine tail_any (ops := [.str z t, .ref s4.heap.objs.size]) (typeIs_str _ _ _) (F.slot_str_getitem.lookup) ?_ (by with_unfolding_all rfl)
    refine wpAny_getItem_str_slice (l := none) (u := none) (st := st') ⟨_, Heap.get?_push_size _ rfl, rfl, rfl⟩ (by rw [e7] <;> rfl) ?_
    have e8 : sliceMade z t none none st' = .str ⟨((Builtin.Str.strSliceIndices none none (-1) z.length).filterMap (z.cps[·]?)).toArray⟩ := by
      unfold sliceMade slicePicked
      rw [e7] <;> rfl
    rw [e8, pick_revS]
    exact ⟨by show Array.size _ ≤ _; rw [List.size_toArray, List.length_reverse]; exact hz, .str _, _, I5.tok _, ⟨_, rfl⟩, q⟩
theorem ok_rev : OpOk K (r1n (rRevD K)) (opSem .rev) := by
  intro vs ds H Q d pk h hQ
  match ds, pk, h with
  | [x], pk, h =>
    obtain ⟨v, F, rfl, r1⟩ := pk.one
    have h : opRev x = some d := h
    refine ⟨v, rfl, ?_⟩
    unfold opRev at h
    split at h
    · split at h
      · rename_i c
        cases h
        obtain ⟨rfl, c1⟩ := r1.str_of
        refine .inr (.inr ⟨_, rfl, by rw [sOf_len]; exact le_line c, ?_⟩)
        rw [sOf_cps]
        exact fin_imm (r := True) hQ (.str _ (chrOk_sub c1 fun x z => List.mem_reverse.mp z))
      · cases h
    · cases h
      obtain ⟨a, xs, rfl, s1, q1⟩ := r1.tup_of
      exact .inr (.inl ⟨a, xs, rfl, s1, fun p hp => fin_tup hQ hp q1.reverse⟩)
    · cases h
      obtain ⟨a, xs, rfl, s1, q1⟩ := r1.flst_of
      exact .inl ⟨a, xs, rfl, s1.sql, fun p hp => fin_lst hQ hp q1.reverse⟩
    · cases h
      obtain ⟨a, xs, rfl, s1, q1, _⟩ := r1.lst_of
      exact .inl ⟨a, xs, rfl, SqL.of s1, fun p hp => fin_lst hQ hp q1.reverse⟩
    · cases h
/-! ### truth -/
theorem truth_ok {v : V} {x : D} {F : List Addr} {b : Bool} (r : Rep K H v x F) (h : truth x = some b) : TruV K v H b := by
  have ne0 : ∀ {vs : List V} {ps : List P}, PReps K H vs ps → vs.isEmpty = ps.isEmpty := fun {vs ps} r => by
    cases r <;> rfl
  have key : ∀ s : List Nat, (!s.isEmpty) = (((s.length : Nat) : Int) != 0) := fun s => by
    cases s with
    | nil => rfl
    | cons a b =>
      have h : ((((a :: b).length : Nat) : Int) != 0) = true := by
        rw [bne_iff_ne, List.length_cons]
        omega
      rw [h]
      rfl
  unfold truth at h
  split at h
  · cases h; obtain ⟨h, _⟩ := r.imm_of; cases h; rfl
  · cases h; obtain rfl := r.bl_of; rfl
  · cases h; obtain rfl := r.int_of; rfl
  · split at h
    · rename_i c
      cases h
      obtain ⟨rfl, c1⟩ := r.str_of
      refine ⟨by rw [sOf_len]; exact le_line c, ?_⟩
      rw [sOf_len]
      exact key _
    · cases h
  · cases h
    obtain ⟨a, xs, rfl, s1, q1⟩ := r.tup_of
    exact .inr (.inl ⟨xs, s1, by rw [ne0 q1]⟩)
  · cases h
    obtain ⟨a, xs, rfl, s1, q1⟩ := r.flst_of
    exact .inl ⟨xs, s1.sql, by rw [ne0 q1]⟩
  · cases h
    obtain ⟨a, xs, rfl, s1, q1, _⟩ := r.lst_of
    exact .inl ⟨xs, SqL.of s1, by rw [ne0 q1]⟩
  · split at h
    · cases h
    · cases h
      cases r with
      | @dicK a kv kvs e q =>
        refine .inr (.inr ⟨kv, e, ?_⟩)
        cases q <;> rfl
      | @dicT a kv kvs e q => rename_i c; exact absurd rfl c
/-! ### methods that change a list: by values -/
def mmName : MOp → Str × String
  | .append => ("append", "list.append")
  | .extend => ("extend", "list.extend")
  | .pop => ("pop", "list.pop")
  | .popAt => ("pop", "list.pop")
  | .remove => ("remove", "list.remove")
def rRemD (K : PySem.W.Frag) : V → List V → Hp → VK → Prop := fun x xs H Q => ∃ (a : Addr) (ys : List V) (y : V) (d : PyData) (ds : List PyData) (j : Nat), x = V.ref a ∧ xs = [y] ∧ H a = some (.lst ys) ∧ DpAll K H ys ds ∧ Dp K H y d ∧
  PyData.canLayAll0 ds = true ∧ d.canLay0 = true ∧ min (PyData.depthAll ds) d.depth ≤ 50 ∧ SeqAt.dataPlace ds d = some j ∧ Q .non (upd H a (.lst (ys.eraseIdx j)))
theorem mt_remD {X : Cx} (hu : X.A.units + 64 < cLine) : MtM X "list.remove" (rRemD X.K) := by
  intro pins s σ H x xs v us Q I rx rxs h
  obtain ⟨a, ys, y, d, ds, j, rfl, rfl, hH, hD, hy, hxs, sd, hm, hp, q⟩ := h
  cases rx
  obtain ⟨u, rfl, ru⟩ := rxs.one
  obtain ⟨bs, r1⟩ := Dp.reads I d y u hy ru
  obtain ⟨z, its, n, r, hl, e⟩ := I.lstM hH
  obtain ⟨as, h4⟩ := Dp.readsAll I ds _ its hD r
  refine SeqAt.remove_list_data (vs := its.toArray) (j := j) ⟨_, e, rfl, _, rfl⟩ (by simpa using h4) r1 (layAll_plain hxs) (lay_plain sd) (by omega) hp (by rw [List.size_toArray]; omega) ?_
  refine ⟨.non, _, I.lset (its' := its.eraseIdx j) (t' := s.toks) hH e ?_ (r.eraseIdx j) ?_, rfl, q⟩
  · show its.toArray.eraseIdxIfInBounds j = (its.eraseIdx j).toArray
    rw [List.eraseIdxIfInBounds_toArray]
  · have := len_erase ys j
    omega
def rMutD (K : PySem.W.Frag) : MOp → V → List V → Hp → VK → Prop
  | .append => rAppend
  | .extend => rExtend
  | .pop => rPop
  | .popAt => rPopAt
  | .remove => rRemD K
theorem mt_mutD {X : Cx} (hu : X.A.units + 64 < cLine) : ∀ m, MtM X (mmName m).2 (rMutD X.K m)
  | .append => mt_append
  | .extend => mt_extend
  | .pop => mt_pop
  | .popAt => mt_popAt
  | .remove => mt_remD hu
theorem idxOf_place (p : P) : ∀ {ps : List P} {j : Nat}, idxOf p ps = some j → SeqAt.dataPlace (toPys ps) (toPy p) = some j
  | [], _, h => by cases h
  | q :: ps, j, h => by
    unfold idxOf at h
    unfold SeqAt.dataPlace
    rw [toPys, List.findIdx?_cons, eqv_py]
    by_cases c : peq q p = true
    · rw [if_pos c] at h
      rw [if_pos c]
      exact h
    · rw [if_neg c] at h
      rw [if_neg c]
      cases e : idxOf p ps with
      | none => rw [e] at h; cases h
      | some i =>
        rw [e] at h
        have := idxOf_place p e
        unfold SeqAt.dataPlace at this
        rw [this]
        exact h
theorem ixP_seqIndex {n : Nat} {i : Int} {j : Nat} (h : ixP n i = some j) : seqIndex? i n = some j := (ixN_seq (by rw [← ixP_eq]; exact h)).1
/-- the change by values: a, the list's object; it holds vs, read as xs -/
theorem mut_ok {m : MOp} {a : Addr} {vs ws : List V} {xs ys : List P} {ds : List D} {p : P} {Q : VK} (h0 : H a = some (.lst vs)) (r0 : PReps K H vs xs) (pk : PkAll K H ws ds) (h : mutSem m xs ds = some (ys, p))
    (hQ : ∀ v vs', PReps K H vs' ys → PRep K H v p → Q v (upd H a (.lst vs'))) : rMutD K m (.ref a) ws H Q := by
  unfold mutSem at h
  split at h
  · split at h
    · rename_i c
      cases h
      obtain ⟨v, F, rfl, r⟩ := pk.one
      obtain ⟨r, _⟩ := r.imm_of
      exact ⟨a, vs, v, rfl, rfl, h0, by rw [r0.length]; exact lt_line c, hQ _ _ (r0.append (.cons r .nil)) .non⟩
    · cases h
  · split at h
    · rename_i c
      cases h
      obtain ⟨v, F, rfl, r⟩ := pk.one
      obtain ⟨b, us, rfl, s1, q1, _⟩ := r.lst_of
      exact ⟨a, b, vs, us, rfl, rfl, h0, s1, by rw [r0.length, q1.length]; exact le_line c, hQ _ _ (r0.append q1) .non⟩
    · cases h
  · cases e : xs[xs.length - 1]? with
    | none => rw [e] at h; cases h
    | some q =>
      rw [e] at h
      cases h
      cases pk
      obtain ⟨v, h1, h2⟩ := r0.get e
      exact ⟨a, vs, v, rfl, rfl, h0, by rw [r0.length]; exact h1, hQ _ _ r0.dropLast h2⟩
  · split at h
    · rename_i hz
      obtain ⟨j, h1, h2⟩ := bind_some h
      cases e : xs[j]? with
      | none => rw [e] at h2; cases h2
      | some q =>
        rw [e] at h2
        cases h2
        obtain ⟨v, F, rfl, r⟩ := pk.one
        obtain rfl := r.int_of
        obtain ⟨v, g1, g2⟩ := r0.get e
        obtain ⟨k1, k2, k3, k4⟩ := ixN_seq (by rw [← ixP_eq]; exact h1)
        rw [← r0.length] at k1 k3 k4 hz
        have hz : vs.length ≤ 16777216 := hz
        have e63 : (2 : Int) ^ 63 = 9223372036854775808 := by decide
        exact ⟨a, vs, _, j, v, rfl, rfl, h0, by rw [e63]; omega, by rw [e63]; omega, k1, g1, hQ _ _ (r0.eraseIdx j) g2⟩
    · cases h
  · split at h
    · rename_i c
      cases e : idxOf _ _ with
      | none => rw [e] at h; cases h
      | some j =>
        rw [e] at h
        cases h
        obtain ⟨v, F, rfl, r⟩ := pk.one
        obtain ⟨r, _⟩ := r.imm_of
        exact ⟨a, vs, v, toPy _, toPys _, j, rfl, rfl, h0, r0.dp, r.dp, r0.lay, r.lay, by rw [depth_py, depths_py]; exact c, idxOf_place _ e, hQ _ _ (r0.eraseIdx j) .non⟩
    · cases h
  · cases h
end
end Sw
set_option maxHeartbeats 1000000
/-! Sw, part 10: the checker: which text a core term stands for. -/
namespace Sw
open PySem PySem.Spec PyProof.Rows L2
structure Tab where
  N : List Str
  fns : List (Str × Nat)
  glos : List (Str × P)
def lookB (sc : Scope) (x : Str) (k : NameKind) : Bool := decide (sc.names.lookup x = some k)
def visB (N : List Str) (sc : Scope) (i : Nat) (x : Str) : Bool := decide (N[i]? = some x) && (lookB sc x .local || lookB sc x .cell || lookB sc x .free) && !(x == ("__debug__" : Str)) && !(x == ("__classdict__" : Str))
def glB (sc : Scope) (x : Str) : Bool := lookB sc x .globalImplicit && !(x == ("__debug__" : Str)) && !(x == ("__name__" : Str))
theorem look_of {sc : Scope} {x : Str} {k : NameKind} (h : lookB sc x k = true) : sc.names.lookup x = some k := of_decide_eq_true h
theorem vis_of {N : List Str} {sc : Scope} {i : Nat} {x : Str} (h : visB N sc i x = true) : N[i]? = some x ∧ Vis sc x ∧ (x == ("__debug__" : Str)) = false ∧ (x == ("__classdict__" : Str)) = false := by
  unfold visB at h
  simp only [Bool.and_eq_true, Bool.or_eq_true, Bool.not_eq_true'] at h
  obtain ⟨⟨⟨h1, h2⟩, h3⟩, h4⟩ := h
  refine ⟨of_decide_eq_true h1, ?_, h3, h4⟩
  rcases h2 with (h | h) | h
  · exact .inl (look_of h)
  · exact .inr (.inl (look_of h))
  · exact .inr (.inr (look_of h))
theorem gl_of {sc : Scope} {x : Str} (h : glB sc x = true) : sc.names.lookup x = some .globalImplicit ∧ (x == ("__debug__" : Str)) = false ∧ x ≠ "__name__" := by
  unfold glB at h
  simp only [Bool.and_eq_true, Bool.not_eq_true'] at h
  exact ⟨look_of h.1.1, h.1.2, fun e => by rw [e] at h; simp at h⟩
def notStar : Expr → Bool
  | .Starred .. => false
  | _ => true
theorem star_of {e : Expr} (h : notStar e = true) (es : List Expr) (env : PySem.Env) : starEach (e :: es) env = (false, eval e env) :: starEach es env := by
  cases e <;> first | rfl | cases h
theorem stars_of {env : PySem.Env} {pos : Pos} : ∀ {es : List Expr}, es.all notStar = true → (backTo pos (starEach es env)).any (·.1) = false
  | [], _ => rfl
  | e :: es, h => by
    rw [List.all_cons, Bool.and_eq_true] at h
    rw [star_of h.1]
    show (false || (backTo pos (starEach es env)).any (·.1)) = false
    rw [stars_of h.2] <;> rfl
theorem stars_all {env : PySem.Env} {pos : Pos} : ∀ {es : List Expr}, es.all notStar = true → (backTo pos (starEach es env)).all (fun x => !x.1) = true
  | [], _ => rfl
  | e :: es, h => by
    rw [List.all_cons, Bool.and_eq_true] at h
    rw [star_of h.1]
    show (true && (backTo pos (starEach es env)).all (fun x => !x.1)) = true
    rw [stars_all h.2] <;> rfl
def notSlice : Expr → Bool
  | .Slice .. => false
  | _ => true
theorem plainIx_of {b : Expr} (h : notSlice b = true) : PlainIx b := fun o i => by
  cases b <;> first | rfl | cases h
def notSet : Expr → Bool
  | .Set .. => false
  | _ => true
theorem notSet_of {e : Expr} (h : notSet e = true) (env : PySem.Env) (x : Value) : foldedSetIterable e env x = pure x := by
  cases e <;> first | rfl | cases h
theorem notSet_mark {op : CmpOp} {e : Expr} (h : notSet e = true) : behindInMarks op e = false := by
  cases e <;> first | rfl | cases h
def plainTest : Expr → Bool
  | .UnaryOp .. => false
  | .BoolOp .. => false
  | .IfExp .. => false
  | .Compare .. => false
  | _ => true
theorem plainTest_of {e : Expr} (h : plainTest e = true) (env : PySem.Env) (whole : Sem Value) : isTrue e env whole = (do let v ← whole; standAt e.pos; holding [v] (truthy v)) := by
  cases e <;> first | rfl | cases h
def baseOk : Expr → Bool
  | .Call _ [] _ _ => false
  | _ => true
theorem base_of {o : Expr} (h : baseOk o = true) (attr : Str) (env : PySem.Env) (whole : Sem Value) : attributeBase o attr env whole = whole := by
  unfold attributeBase
  split
  · cases h
  · rfl
def constB (p : P) (c : Const) : Bool := match p, c with
  | .non, .none => true
  | .bl a, .bool b => a == b
  | .int a, .int b => a == b
  | .str a, .str b => decide (b = sOf a) && chrOk a
  | _, _ => false
/-- the built-ins by name -/
def bltOf : Op → Option (Str × Value × Nat)
  | .len => some ("len", .builtin "len", 1)
  | .list => some ("list", .type "list", 1)
  | .tuple => some ("tuple", .type "tuple", 1)
  | .min2 => some ("min", .builtin "min", 2)
  | .max2 => some ("max", .builtin "max", 2)
  | .int => some ("int", .type "int", 1)
  | .abs => some ("abs", .builtin "abs", 1)
  | .sum => some ("sum", .builtin "sum", 1)
  | .all => some ("all", .builtin "all", 1)
  | .any => some ("any", .builtin "any", 1)
  | .sorted => some ("sorted", .builtin "sorted", 1)
  | .minL => some ("min", .builtin "min", 1)
  | .maxL => some ("max", .builtin "max", 1)
  | .repr => some ("repr", .builtin "repr", 1)
  | _ => none
def bltNames : List Str := ["len", "list", "tuple", "min", "max", "int", "abs", "sum", "all", "any", "isinstance", "bool", "str", "range", "enumerate", "zip", "sorted", "repr"]
def binOf : Op → Option Operator
  | .add => some .Add
  | .sub => some .Sub
  | .mul => some .Mult
  | .fdiv => some .FloorDiv
  | .mod => some .Mod
  | .pow => some .Pow
  | .xor => some .BitXor
  | _ => none
def cmpOf : Op → Option CmpOp
  | .eq => some .Eq
  | .ne => some .NotEq
  | .lt => some .Lt
  | .le => some .LtE
  | .gt => some .Gt
  | .ge => some .GtE
  | .isin => some .In
  | .notin => some .NotIn
  | .isB => some .Is
  | .notB => some .IsNot
  | _ => none
def mthOf : Op → Option (Str × Nat)
  | .join => some ("join", 1)
  | .index => some ("index", 1)
  | .swapcase => some ("swapcase", 0)
  | .lower => some ("lower", 0)
  | .upper => some ("upper", 0)
  | .find => some ("find", 1)
  | .find2 => some ("find", 2)
  | .count => some ("count", 1)
  | .starts => some ("startswith", 1)
  | .starts2 => some ("startswith", 2)
  | .ends => some ("endswith", 1)
  | .isup => some ("isupper", 0)
  | .islo => some ("islower", 0)
  | .get => some ("get", 1)
  | .get2 => some ("get", 2)
  | _ => none
def tyNm (sc : Scope) (t : Ty) : Expr → Bool
  | .Name x _ => decide (x = (tyName t : Str)) && glB sc x
  | _ => false
def tyNms (sc : Scope) : List Ty → List Expr → Bool
  | [], [] => true
  | t :: ts, e :: es => tyNm sc t e && tyNms sc ts es
  | _, _ => false
/-- [::-1], [::0 - 1] -/
def isNeg1 : Expr → Bool
  | .UnaryOp .USub (.Constant (.int 1) _ _) _ => true
  | .BinOp (.Constant (.int 0) _ _) .Sub (.Constant (.int 1) _ _) _ => true
  | _ => false
def isNoneC : Expr → Bool
  | .Constant .none _ _ => true
  | _ => false
def isTup : Expr → Bool
  | .Tuple .. => true
  | _ => false
theorem isTup_of {e : Expr} (h : isTup e = true) : ∃ xs j pos, e = .Tuple xs j pos := by
  cases e <;> first | (cases h; done) | exact ⟨_, _, _, rfl⟩
def chkC (sc : Scope) (y : Str) (n : Nat) (ck : List Expr → Bool) (x : Expr) : Bool := match x with
  | .Call f args kws _ => (match f, kws with
    | .Name z _, [] => glB sc z && ck args && decide (z = y) && decide (args.length = n)
    | _, _ => false)
  | _ => false
theorem chkC_of {sc : Scope} {y : Str} {n : Nat} {ck : List Expr → Bool} {x : Expr} (h : chkC sc y n ck x = true) : ∃ p args pos, x = .Call (.Name y p) args [] pos ∧ glB sc y = true ∧ ck args = true ∧ args.length = n := by
  unfold chkC at h
  split at h
  · split at h
    · simp only [Bool.and_eq_true] at h
      obtain ⟨⟨⟨h1, h2⟩, h3⟩, h4⟩ := h
      obtain rfl := of_decide_eq_true h3
      exact ⟨_, _, _, rfl, h1, h2, of_decide_eq_true h4⟩
    · cases h
  · cases h
/-- the text of what is walked -/
def chkI (sc : Scope) (isT : Bool) (k : IK) (ck : List Expr → Bool) (x : Expr) : Bool := match k with
  | .seq => notSet x && ck [x]
  | .rng1 => chkC sc "range" 1 ck x
  | .rng2 => chkC sc "range" 2 ck x
  | .rng3 => chkC sc "range" 3 ck x
  | .enum => isT && chkC sc "enumerate" 1 ck x
  | .zip => isT && chkC sc "zip" 2 ck x
theorem chkC_set {sc : Scope} {y : Str} {n : Nat} {ck : List Expr → Bool} {x : Expr} (h : chkC sc y n ck x = true) : notSet x = true := by
  obtain ⟨p, args, pos, rfl, _⟩ := chkC_of h
  rfl
theorem chkI_set {sc : Scope} {isT : Bool} {k : IK} {ck : List Expr → Bool} {x : Expr} (h : chkI sc isT k ck x = true) : notSet x = true := by
  unfold chkI at h
  split at h
  · rw [Bool.and_eq_true] at h; exact h.1
  · exact chkC_set h
  · exact chkC_set h
  · exact chkC_set h
  · rw [Bool.and_eq_true] at h; exact chkC_set h.2
  · rw [Bool.and_eq_true] at h; exact chkC_set h.2
/-! ### targets -/
mutual
def chkP (N : List Str) (st : Str → Bool) : Pat → Expr → Bool
  | .nm i, e => (match e with
    | .Name x _ => decide (N[i]? = some x) && st x
    | _ => false)
  | .tp ts, e => (match e with
    | .Tuple xs _ _ => chkPs N st ts xs
    | _ => false)
def chkPs (N : List Str) (st : Str → Bool) : List Pat → List Expr → Bool
  | [], xs => xs.isEmpty
  | t :: ts, xs => (match xs with
    | x :: xs => notStar x && chkP N st t x && chkPs N st ts xs
    | _ => false)
end
def stB (sc : Scope) (x : Str) : Bool := lookB sc x .local || lookB sc x .cell
def ownN (N : List Str) (own : List Nat) : List (Str × Nat) := own.map fun i => (N.getD i ("" : Str), i)
mutual
/-- what may stand as a test -/
def tstB : E → Bool
  | .op .neg _ => false
  | .ife .. => false
  | .frz _ => false
  | .and es => tstBs es
  | .or es => tstBs es
  | _ => true
def tstBs : List E → Bool
  | [] => true
  | e :: es => tstB e && tstBs es
end
/-- a display's keys and values in a row -/
def inter : List (Option Expr) → List Expr → Option (List Expr)
  | [], [] => some []
  | some k :: ks, v :: vs => (inter ks vs).map fun r => k :: v :: r
  | _, _ => none
mutual
def chkE (T : Tab) (sc : Scope) : E → Expr → Bool
  | .nm i, e => (match e with
    | .Name x _ => visB T.N sc i x
    | _ => false)
  | .cst p, e => (match e with
    | .Constant c _ _ => constB p c
    | _ => false)
  | .glo j, e => (match e with
    | .Name x _ => glB sc x && decide ((T.glos[j]?).map (·.1) = some x)
    | _ => false)
  | .mv i, e => (match e with
    | .Name x _ => visB T.N sc i x
    | _ => false)
  | .tup es, e => (match e with
    | .Tuple xs _ _ => chkEs T sc es xs
    | _ => false)
  | .lst es, e => (match e with
    | .List xs _ => chkEs T sc es xs
    | _ => false)
  | .op o es, e => (match e with
    | .BinOp a op b _ => decide (binOf o = some op) && chkEs T sc es [a, b]
    | .UnaryOp op a _ => decide (op = .USub) && decide (o = .neg) && chkEs T sc es [a]
    | .Compare a ops bs _ => (match ops, bs with
      | [op], [b] => (decide (cmpOf o = some op) && notSet b && chkEs T sc es [a, b]) || (isNoneC b && (decide (o = .isN) && decide (op = .Is) || decide (o = .notN) && decide (op = .IsNot)) && chkEs T sc es [a])
      | _, _ => false)
    | .Subscript a b _ => (match b with
      | .Slice lo hi st _ => (match lo, hi, st with
        | none, none, some s => isNeg1 s && decide (o = .rev) && chkEs T sc es [a]
        | _, _, _ => false)
      | b => decide (o = .idx) && notSlice b && chkEs T sc es [a, b])
    | .Call f args kws _ => (match f, kws with
      | .Name x _, [] => (match o with
        | .isi ts => decide (x = ("isinstance" : Str)) && glB sc x && (match args with
          | [a, b] => notStar a && notStar b && chkEs T sc es [a] && (match b with
            | .Tuple bs _ _ => decide (ts.length ≤ 10) && tyNms sc ts bs
            | b => (match ts with
              | [t] => tyNm sc t b
              | _ => false))
          | _ => false)
        | o => (match bltOf o with
          | some (y, _, n) => decide (x = y) && glB sc x && decide (args.length = n) && chkEs T sc es args
          | none => false))
      | _, _ => false)
    | _ => false)
  | .mth o a es, e => (match e with
    | .Call f args kws cpos => (match f, kws with
      | .Attribute ob name apos, [] => (match mthOf o with
        | some (y, n) => decide (name = y) && decide (args.length = n) && baseOk ob && (apos.endLine == cpos.line) && notStar ob && chkE T sc a ob && chkEs T sc es args
        | none => false)
      | _, _ => false)
    | _ => false)
  | .chain o1 o2 a b c, e => (match e with
    | .Compare x ops ys _ => (match ops, ys with
      | [p, q], [y, z] => decide (cmpOf o1 = some p) && decide (cmpOf o2 = some q) && notSet y && notSet z && notStar x && notStar y && notStar z && chkE T sc a x && chkE T sc b y && chkE T sc c z
      | _, _ => false)
    | _ => false)
  | .chain3 o1 o2 o3 a b c d, e => (match e with
    | .Compare x ops ys _ => (match ops, ys with
      | [p, q, r], [y, z, w] => decide (cmpOf o1 = some p) && decide (cmpOf o2 = some q) && decide (cmpOf o3 = some r) && notSet y && notSet z && notSet w && notStar x && notStar y && notStar z && notStar w && chkE T sc a x && chkE T sc b y && chkE T sc c z && chkE T sc d w
      | _, _ => false)
    | _ => false)
  | .dnew _, e => (match e with
    | .Dict ks vs _ => ks.isEmpty && vs.isEmpty
    | _ => false)
  | .dlit _ es, e => (match e with
    | .Dict ks vs _ => !ks.isEmpty && decide (ks.length ≤ 15) && (match inter ks vs with
      | some xs => chkEs T sc es xs
      | none => false)
    | _ => false)
  | .lsi tu k as, e => (match e with
    | .Call f args kws _ => (match f, args, kws with
      | .Name y _, [it], [] => decide (y = (if tu then "tuple" else "list" : Str)) && glB sc y && (match k with
        | .rng1 => chkC sc "range" 1 (fun xs => chkEs T sc as xs) it
        | .rng2 => chkC sc "range" 2 (fun xs => chkEs T sc as xs) it
        | _ => false)
      | _, _, _ => false)
    | _ => false)
  | .and es, e => (match e with
    | .BoolOp op xs _ => decide (op = .And) && !xs.isEmpty && chkEs T sc es xs
    | _ => false)
  | .or es, e => (match e with
    | .BoolOp op xs _ => decide (op = .Or) && !xs.isEmpty && chkEs T sc es xs
    | _ => false)
  | .not a, e => (match e with
    | .UnaryOp op x _ => decide (op = .Not) && chkE T sc a x && tstB a
    | _ => false)
  | .ife t a b, e => (match e with
    | .IfExp x y z _ => chkE T sc t x && tstB t && chkE T sc a y && chkE T sc b z
    | _ => false)
  | .slc a lo hi, e => (match e with
    | .Subscript x s _ => (match s with
      | .Slice l h st _ => (match st with
        | none => chkE T sc a x && chkO T sc lo l && chkO T sc hi h
        | _ => false)
      | _ => false)
    | _ => false)
  | .mut m i es, e => (match e with
    | .Call f args kws cpos => (match f, kws with
      | .Attribute ob name apos, [] => (match ob with
        | .Name x _ => visB T.N sc i x && decide (name = (mmName m).1) && (apos.endLine == cpos.line) && decide (args.length < 20) && chkEs T sc es args
        | _ => false)
      | _, _ => false)
    | _ => false)
  | .call f es, e => (match e with
    | .Call g args kws _ => (match g, kws with
      | .Name x _, [] => glB sc x && decide (T.fns[f]? = some (x, args.length)) && chkEs T sc es args
      | _, _ => false)
    | _ => false)
  | .cmp own t k as tests elt, e => (match e with
    | .ListComp x gens scope _ => (match gens with
      | [⟨tg, iter, ifs, asy⟩] => decide (asy = 0) && chkI sc (isTup tg) k (fun xs => chkEs T sc as xs) iter && blkC T.N sc scope (ownN T.N own) && chkP T.N (stB scope) t tg && (asgP t).all (fun i => own.contains i) &&
          decide own.Nodup && tstBs tests && decide (tests.length ≤ 1) && chkEs T (relS scope sc) tests ifs && chkE T (relS scope sc) elt x
      | _ => false)
    | _ => false)
  | .cmp2 own own2 t k as tests t2 k2 as2 tests2 elt, e => (match e with
    | .ListComp x gens scope _ => (match gens with
      | [⟨tg, iter, ifs, asy⟩, ⟨tg1, iter1, ifs1, asy1⟩] => decide (asy = 0 ∧ asy1 = 0) && chkI sc (isTup tg) k (fun xs => chkEs T sc as xs) iter && blkC T.N sc scope (ownN T.N own) && chkP T.N (stB scope) t tg && (asgP t).all (fun i => own.contains i) &&
          decide own.Nodup && tstBs tests && decide (tests.length ≤ 1) && chkEs T (relS scope sc) tests ifs && chkI (relS scope sc) (isTup tg1) k2 (fun xs => chkEs T (relS scope sc) as2 xs) iter1 && chkP T.N (stB scope) t2 tg1 && (asgP t2).all (fun i => own2.contains i) && own2.all (fun i => own.contains i) &&
          tstBs tests2 && decide (tests2.length ≤ 1) && chkEs T (relS scope sc) tests2 ifs1 && chkE T (relS scope sc) elt x
      | _ => false)
    | _ => false)
  | .frz a, e => chkE T sc a e
def chkEs (T : Tab) (sc : Scope) : List E → List Expr → Bool
  | [], xs => (match xs with
    | [] => true
    | _ => false)
  | a :: as, xs => (match xs with
    | x :: xs => notStar x && chkE T sc a x && chkEs T sc as xs
    | _ => false)
def chkO (T : Tab) (sc : Scope) : Option E → Option Expr → Bool
  | none, x => x.isNone
  | some a, x => (match x with
    | some y => chkE T sc a y
    | none => false)
end
end Sw
set_option maxHeartbeats 1000000
/-! Sw, part 11: soundness, the nodes. -/
namespace Sw
open PySem PySem.Spec PyProof.Rows L2
/-- a def's promise by the evaluator's function -/
def spD (K : PySem.W.Frag) (φ : List D → Option (D × List D)) : Sp := fun vs H Q _ => ∃ ds Fs d rs, Reps K H vs ds Fs ∧ Fs.Nodup ∧ φ ds = some (d, rs) ∧
  ∀ v H' Fd Fr, Rep K H' v d Fd → Reps K H' vs rs Fr → (Fd ++ Fr).Nodup → Stp H Fs H' (Fd ++ Fr) → Q v H'
structure Good (T : Tab) (Φ : CallS) (k : Nat) (sc : Scope) (X : Cx) : Prop where
  N : X.N = T.N
  nd : T.N.Nodup
  calm : X.calm = true
  room : Room k X.A
  scope : X.env.scope = sc
  glos : ∀ (j : Nat) (x : Str) (p : P), T.glos[j]? = some (x, p) → ∃ (u : Value) (v : V), X.mg x = some u ∧ RelV v u ∧ ∀ H, PRep X.K H v p
  fns : ∀ (j : Nat) (x : Str) (n : Nat), T.fns[j]? = some (x, n) → ∃ (f : Addr) (fd : FuncData) (ps : List Str), X.mg x = some (.ref f) ∧ PySem.W.keepIn X.K (.ref f) = true ∧ Binds X.K fd ps [] ∧ ps.length = n ∧
    FnOk X.prog X.w X.K X.mg X.base CX0 k f fd ps (spD X.K (Φ j))
  blt : ∀ x ∈ bltNames, X.mg x = none
def Tab.G (T : Tab) : List P := T.glos.map (·.2)
section
variable {T : Tab} {Φ : CallS} {k : Nat} {sc : Scope} {X : Cx}
theorem Good.hu (g : Good T Φ k sc X) : X.A.units + 64 < cLine := g.room.units
theorem Good.gl (g : Good T Φ k sc X) {x : Str} (h : sc.names.lookup x = some .globalImplicit) : Gl X x := by
  unfold Gl Env.kindOf
  rw [g.scope]
  exact h
end
section
variable {K : PySem.W.Frag} {σ : L2.St} {H : Hp} {Q : VK} {e e1 e2 : En} {F : List Addr}
/-- a tO of what is known -/
theorem tO_mk {f : M Opd} {o : Opd} (he : EnvRep K H σ e F) (n : F.Nodup) (hf : f e = some (o, e1)) (h : ∀ v H1 Fd F1, ORep K H1 σ v o Fd → EnvRep K H1 σ e1 F1 → (Fd ++ F1).Nodup → Stp H F H1 (Fd ++ F1) → Q v H1) : tO K f σ H Q := ⟨e, F, o, e1, he, n, hf, h⟩
theorem ORep.frame {H1 H2 : Hp} {v : V} {o : Opd} {Fd F1 G : List Addr} (r : ORep K H1 σ v o Fd) (he : EnvRep K H1 σ e1 F1) (n : (Fd ++ F1).Nodup) (s : Stp H1 F1 H2 G) : ORep K H2 σ v o Fd := by
  obtain ⟨h1, h2⟩ := stp_keep s he.mut r.mut n
  exact r.mono h1 h2
theorem ORs.frame {H1 H2 : Hp} {v : List V} {o : List Opd} {Fd F1 G : List Addr} (r : ORs K H1 σ v o Fd) (he : EnvRep K H1 σ e1 F1) (n : (Fd ++ F1).Nodup) (s : Stp H1 F1 H2 G) : ORs K H2 σ v o Fd := by
  obtain ⟨h1, h2⟩ := stp_keep s he.mut r.mut n
  exact r.mono h1 h2
/-- two values in a row -/
theorem two_ops {fa fb : M Opd} {x y : Opd} {R : V → V → Hp → Prop} (he : EnvRep K H σ e F) (n : F.Nodup) (hx : fa e = some (x, e1)) (hy : fb e1 = some (y, e2))
    (C : ∀ vx vy H2 Fs F2, ORs K H2 σ [vx, vy] [x, y] Fs → EnvRep K H2 σ e2 F2 → (Fs ++ F2).Nodup → Stp H F H2 (Fs ++ F2) → R vx vy H2) : tO K fa σ H fun vx H1 => tO K fb σ H1 fun vy H2 => R vx vy H2 := by
  refine tO_mk he n hx fun vx H1 Fx F1 ox he1 n1 s1 => tO_mk he1 (nd_right n1) hy fun vy H2 Fy F2 oy he2 n2 s2 => ?_
  obtain ⟨s3, n3⟩ := stp_two s1 n1 ox.mut s2 n2
  have ox2 := ox.frame he1 n1 s2
  refine C vx vy H2 (Fx ++ (Fy ++ [])) F2 (.cons ox2 (.cons oy .nil)) he2 ?_ ?_
  · rw [List.append_nil, List.append_assoc]; exact n3
  · rw [List.append_nil, List.append_assoc]; exact s3
theorem evos_one {Φ : CallS} {G : List P} {a : E} {os : List Opd} (h : evos Φ G [a] e = some (os, e1)) : ∃ x, evo Φ G a e = some (x, e1) ∧ os = [x] := by
  simp only [evos] at h
  obtain ⟨⟨x, f1⟩, h1, h2⟩ := bind_some h
  simp only [Option.bind_some] at h2
  cases h2
  exact ⟨x, h1, rfl⟩
theorem evos_cons {Φ : CallS} {G : List P} {a : E} {as : List E} {os : List Opd} (h : evos Φ G (a :: as) e = some (os, e2)) : ∃ x xs e1, evo Φ G a e = some (x, e1) ∧ evos Φ G as e1 = some (xs, e2) ∧ os = x :: xs := by
  simp only [evos] at h
  obtain ⟨⟨x, f1⟩, h1, h2⟩ := bind_some h
  obtain ⟨⟨xs, f2⟩, h3, h4⟩ := bind_some h2
  cases h4
  exact ⟨x, xs, f1, h1, h3, rfl⟩
theorem evos_two {Φ : CallS} {G : List P} {a b : E} {os : List Opd} (h : evos Φ G [a, b] e = some (os, e2)) : ∃ x y e1, evo Φ G a e = some (x, e1) ∧ evo Φ G b e1 = some (y, e2) ∧ os = [x, y] := by
  obtain ⟨x, xs, f, h1, h2, rfl⟩ := evos_cons h
  obtain ⟨y, h3, rfl⟩ := evos_one h2
  exact ⟨x, y, f, h1, h3, rfl⟩
theorem evo_op {Φ : CallS} {G : List P} {o : Op} {es : List E} {r : Opd} (h : evo Φ G (.op o es) e = some (r, e1)) : ∃ os ds d, evos Φ G es e = some (os, e1) ∧ resvs e1 os = some ds ∧ opSem o ds = some d ∧ r = .tmp d := by
  simp only [evo] at h
  obtain ⟨⟨os, f⟩, h1, h2⟩ := bind_some h
  obtain ⟨ds, h3, h4⟩ := bind_some h2
  obtain ⟨d, h5, h6⟩ := bind_some h4
  cases h6
  exact ⟨os, ds, d, h1, h3, h5, rfl⟩
/-- an operator of two, by its values' rule -/
theorem tOp_of {Φ : CallS} {G : List P} {o : Op} {a b : E} {r : R2} (ok : OpOk K (r2n r) (opSem o)) (h : tO K (evo Φ G (.op o [a, b])) σ H Q) : tOp r (tO K (evo Φ G a)) (tO K (evo Φ G b)) σ H Q := by
  obtain ⟨e, F, z, e', he, n, hf, hQ⟩ := h
  obtain ⟨os, ds, d, h1, h2, h3, rfl⟩ := evo_op hf
  obtain ⟨x, y, e1, h4, h5, rfl⟩ := evos_two h1
  refine two_ops he n h4 h5 fun vx vy H2 Fs F2 rs he2 n2 s2 => ?_
  obtain ⟨v, u, e, q⟩ := ops_end ok rs he2 n2 s2 h2 h3 hQ
  cases e
  exact q
theorem tUn_of {Φ : CallS} {G : List P} {o : Op} {a : E} {r : V → Hp → VK → Prop} (ok : OpOk K (r1n r) (opSem o)) (h : tO K (evo Φ G (.op o [a])) σ H Q) : tUn r (tO K (evo Φ G a)) σ H Q := by
  obtain ⟨e, F, z, e', he, n, hf, hQ⟩ := h
  obtain ⟨os, ds, d, h1, h2, h3, rfl⟩ := evo_op hf
  obtain ⟨x, h4, rfl⟩ := evos_one h1
  refine tO_mk he n h4 fun vx H1 Fx F1 ox he1 n1 s1 => ?_
  have ox' : ORs K H1 σ [vx] [x] (Fx ++ []) := .cons ox .nil
  obtain ⟨v, e, q⟩ := ops_end ok ox' he1 (by rw [List.append_nil]; exact n1) (by rw [List.append_nil]; exact s1) h2 h3 hQ
  cases e
  exact q
/-- a built-in called -/
theorem tCB_of {Φ : CallS} {G : List P} {o : Op} {es : List E} {r : List V → Hp → VK → Prop} (ok : OpOk K r (opSem o)) (h : tO K (evo Φ G (.op o es)) σ H Q) : tCB r (tOs K (evos Φ G es)) σ H Q := by
  obtain ⟨e, F, z, e', he, n, hf, hQ⟩ := h
  obtain ⟨os, ds, d, h1, h2, h3, rfl⟩ := evo_op hf
  exact ⟨e, F, os, e', he, n, h1, fun vs H2 Fs F2 rs he2 n2 s2 => ops_end ok rs he2 n2 s2 h2 h3 hQ⟩
end
section
variable {T : Tab} {Φ : CallS} {k : Nat} {sc : Scope} {X : Cx}
theorem snd_nil : PA X [] (tOs X.K (evos Φ T.G [])) := PA.weak pa_nil fun σ H Q h => by
  obtain ⟨e, F, o, e', he, n, hf, hQ⟩ := h
  simp only [evos, Option.some.injEq, Prod.mk.injEq] at hf
  obtain ⟨rfl, rfl⟩ := hf
  exact hQ [] H [] F .nil he n (Stp.refl H F)
theorem snd_cons {a : E} {as : List E} {x : Expr} {xs : List Expr} (ha : PE X x (tO X.K (evo Φ T.G a))) (hs : PA X xs (tOs X.K (evos Φ T.G as))) (ns : notStar x = true) : PA X (x :: xs) (tOs X.K (evos Φ T.G (a :: as))) :=
  PA.weak (pa_cons ha hs (star_of ns _ _)) fun σ H Q h => by
    obtain ⟨e, F, o, e', he, n, hf, hQ⟩ := h
    obtain ⟨y, ys, e1, h1, h2, rfl⟩ := evos_cons hf
    refine tO_mk he n h1 fun vx H1 Fx F1 ox he1 n1 s1 => ⟨e1, F1, ys, e', he1, nd_right n1, h2, fun vs H2 Fs F2 rs he2 n2 s2 => ?_⟩
    obtain ⟨s3, n3⟩ := stp_two s1 n1 ox.mut s2 n2
    refine hQ (vx :: vs) H2 (Fx ++ Fs) F2 (.cons (ox.frame he1 n1 s2) rs) he2 ?_ ?_
    · rw [List.append_assoc]; exact n3
    · rw [List.append_assoc]; exact s3
/-- tuple, list display -/
theorem snd_tup {es : List E} {xs : List Expr} {j : Nat} {pos : Pos} (h : PA X xs (tOs X.K (evos Φ T.G es))) : PE X (.Tuple xs j pos) (tO X.K (evo Φ T.G (.tup es))) :=
  PE.weak (pe_tup h) fun σ H Q h => by
    obtain ⟨e, F, o, e', he, n, hf, hQ⟩ := h
    simp only [evo] at hf
    obtain ⟨⟨os, e1⟩, h1, h2⟩ := bind_some hf
    obtain ⟨ps, h3, h4⟩ := bind_some h2
    split at h4
    · rename_i hl
      cases h4
      refine ⟨e, F, os, _, he, n, h1, fun vs H2 Fs F2 rs he2 n2 s2 => ?_⟩
      obtain ⟨q1, rfl⟩ := immOs_ok rs h3
      refine ⟨by rw [q1.length]; exact le_line hl, fun p hp => ?_⟩
      obtain ⟨s3, n3⟩ := stp_new (F3 := []) s2 n2 he2.mut (same_new hp) (fun a z => nomatch z) List.nodup_nil
      exact hQ _ _ [] F2 (Rep.imm (.tup upd_same (q1.keep (Keeps.of_same (same_new hp))))) (he2.same (same_new hp)) n3 s3
    · cases h4
theorem snd_lst {es : List E} {xs : List Expr} {pos : Pos} (h : PA X xs (tOs X.K (evos Φ T.G es))) : PE X (.List xs pos) (tO X.K (evo Φ T.G (.lst es))) :=
  PE.weak (pe_lst h) fun σ H Q h => by
    obtain ⟨e, F, o, e', he, n, hf, hQ⟩ := h
    simp only [evo] at hf
    obtain ⟨⟨os, e1⟩, h1, h2⟩ := bind_some hf
    obtain ⟨ps, h3, h4⟩ := bind_some h2
    split at h4
    · rename_i hl
      cases h4
      refine ⟨e, F, os, _, he, n, h1, fun vs H2 Fs F2 rs he2 n2 s2 => ?_⟩
      obtain ⟨q1, rfl⟩ := immOs_ok rs h3
      refine ⟨by rw [q1.length]; exact le_line hl, fun p hp => ?_⟩
      obtain ⟨s3, n3⟩ := stp_new (F3 := [p]) s2 n2 he2.mut (same_new hp) (fun a z => by rw [List.mem_singleton.mp z]; exact hp) (by simp)
      exact hQ _ _ [p] F2 (Rep.lst upd_same (q1.keep (Keeps.of_same (same_new hp)))) (he2.same (same_new hp)) n3 s3
    · cases h4
/-- a name -/
theorem snd_nm {i : Nat} {x : Str} {pos : Pos} (g : Good T Φ k sc X) (h : visB T.N sc i x = true) : PE X (.Name x pos) (tO X.K (evo Φ T.G (.nm i))) := by
  obtain ⟨h1, h2, h3, h4⟩ := vis_of h
  refine PE.weak (pe_var (i := i) (by rw [g.N]; exact h1) (by rw [g.scope]; exact h2) h3 h4) fun σ H Q h => ?_
  obtain ⟨e, F, o, e', he, n, hf, hQ⟩ := h
  simp only [evo] at hf
  obtain ⟨o', h5, h6⟩ := bind_some hf
  cases h6
  unfold nmSem at h5
  split at h5
  · rename_i p hp
    cases h5
    obtain ⟨v, Fi, g1, g2, _⟩ := he.get hp
    obtain ⟨q, _⟩ := g2.imm_of
    exact ⟨v, g1, hQ v H [] F (Rep.imm q) he n (Stp.refl H F)⟩
  · rename_i ps hp
    cases h5
    obtain ⟨v, Fi, g1, g2, _⟩ := he.get hp
    exact ⟨v, g1, hQ v H [] F ⟨g1, rfl⟩ he n (Stp.refl H F)⟩
  · rename_i t ps hp
    cases h5
    obtain ⟨v, Fi, g1, g2, _⟩ := he.get hp
    exact ⟨v, g1, hQ v H [] F ⟨g1, rfl⟩ he n (Stp.refl H F)⟩
  · cases h5
theorem snd_mv {i : Nat} {x : Str} {pos : Pos} (g : Good T Φ k sc X) (h : visB T.N sc i x = true) : PE X (.Name x pos) (tO X.K (evo Φ T.G (.mv i))) := by
  obtain ⟨h1, h2, h3, h4⟩ := vis_of h
  refine PE.weak (pe_var (i := i) (by rw [g.N]; exact h1) (by rw [g.scope]; exact h2) h3 h4) fun σ H Q h => ?_
  obtain ⟨e, F, o, e', he, n, hf, hQ⟩ := h
  simp only [evo] at hf
  unfold mvSem at hf
  split at hf
  · rename_i p hp
    cases hf
    obtain ⟨v, Fi, g1, g2, _⟩ := he.get hp
    obtain ⟨q, _⟩ := g2.imm_of
    exact ⟨v, g1, hQ v H [] F (Rep.imm q) he n (Stp.refl H F)⟩
  · rename_i ps hp
    cases hf
    obtain ⟨v, Fi, F', g1, g2, g3, g4, g5⟩ := he.out hp
    exact ⟨v, g1, hQ v H Fi F' g2 g3 (g5 n) ((Stp.refl H F).less (fun a z => z) fun a z => g4 a z)⟩
  · rename_i t ps hp
    cases hf
    obtain ⟨v, Fi, F', g1, g2, g3, g4, g5⟩ := he.out hp
    exact ⟨v, g1, hQ v H Fi F' g2 g3 (g5 n) ((Stp.refl H F).less (fun a z => z) fun a z => g4 a z)⟩
  · cases hf
/-- a constant -/
theorem tC_of {K : PySem.W.Frag} {f : M Opd} {v : V} {p : P} (hp : ∀ H, PRep K H v p) (hf : ∀ e, f e = some (.tmp (.imm p), e)) (σ : L2.St) (H : Hp) (Q : VK) (h : tO K f σ H Q) : tC v σ H Q := by
  obtain ⟨e, F, o, e', he, n, hf', hQ⟩ := h
  rw [hf e] at hf'
  cases hf'
  exact hQ v H [] F (Rep.imm (hp H)) he n (Stp.refl H F)
theorem snd_cst {p : P} {c : Const} {j : Nat} {pos : Pos} (h : constB p c = true) : PE X (.Constant c j pos) (tO X.K (evo Φ T.G (.cst p))) := by
  have hf : ∀ e, evo Φ T.G (.cst p) e = some (.tmp (.imm p), e) := fun e => by simp only [evo]
  cases p <;> cases c <;> first | (cases h; done) | skip
  · exact PE.weak pe_non (tC_of (fun H => .non) hf)
  · obtain rfl := eq_of_beq (show (_ == _) = true from h)
    exact PE.weak pe_bl (tC_of (fun H => .bl _) hf)
  · obtain rfl := eq_of_beq (show (_ == _) = true from h)
    exact PE.weak pe_int (tC_of (fun H => .int _) hf)
  · have h : (decide (_ = sOf _) && chrOk _) = true := h
    rw [Bool.and_eq_true] at h
    obtain rfl := of_decide_eq_true h.1
    exact PE.weak pe_str (tC_of (fun H => .str _ h.2) hf)
theorem snd_glo {j : Nat} {x : Str} {pos : Pos} (g : Good T Φ k sc X) (h : glB sc x = true) (h2 : (T.glos[j]?).map (·.1) = some x) : PE X (.Name x pos) (tO X.K (evo Φ T.G (.glo j))) := by
  cases q : T.glos[j]? with
  | none => rw [q] at h2; cases h2
  | some z =>
    obtain ⟨y, p⟩ := z
    rw [q] at h2
    cases h2
    obtain ⟨u, v, m, r, hp⟩ := g.glos j _ p q
    obtain ⟨g1, g2, g3⟩ := gl_of h
    refine PE.weak (pe_glob (g.gl g1) m r g2) (tC_of hp fun e => ?_)
    simp only [evo, Tab.G, List.getElem?_map, q]
    rfl
end
end Sw
set_option maxHeartbeats 1000000
/-! Sw, part 12: soundness, operators and calls. -/
namespace Sw
open PySem PySem.Spec PyProof.Rows L2
section
variable {T : Tab} {Φ : CallS} {k : Nat} {sc : Scope} {X : Cx}
/-- x op y -/
theorem snd_bin {o : Op} {op : Operator} {a b : E} {x y : Expr} {pos : Pos} (g : Good T Φ k sc X) (h : binOf o = some op) (ha : PE X x (tO X.K (evo Φ T.G a))) (hb : PE X y (tO X.K (evo Φ T.G b))) : PE X (.BinOp x op y pos) (tO X.K (evo Φ T.G (.op o [a, b]))) := by
  cases o <;> first | (cases h; done) | (cases h)
  · exact PE.weak (pe_op op_addD ha hb) fun σ H Q => tOp_of ok_add
  · exact PE.weak (pe_op op_sub ha hb) fun σ H Q => tOp_of ok_sub
  · exact PE.weak (pe_op op_mulD ha hb) fun σ H Q => tOp_of ok_mul
  · exact PE.weak (pe_op op_fdivN ha hb) fun σ H Q => tOp_of ok_fdiv
  · exact PE.weak (pe_op op_modN ha hb) fun σ H Q => tOp_of ok_mod
  · exact PE.weak (pe_op op_pow ha hb) fun σ H Q => tOp_of ok_pow
  · exact PE.weak (pe_op op_xor ha hb) fun σ H Q => tOp_of ok_xor
/-- a comparison's rule -/
def rCmpO (K : PySem.W.Frag) : Op → R2
  | .eq => rEqP K
  | .ne => rNeP K
  | .lt => rCmpD (fun i j => decide (i < j)) fun a b => decide (a < b)
  | .le => rCmpD (fun i j => decide (i ≤ j)) fun a b => !decide (b < a)
  | .gt => rCmpD (fun i j => decide (j < i)) fun a b => decide (b < a)
  | .ge => rCmpD (fun i j => decide (j ≤ i)) fun a b => !decide (a < b)
  | .isin => rInP K false
  | .notin => rInP K true
  | .isB => rIsB
  | .notB => rNotB
  | _ => fun _ _ _ _ => False
theorem cmp_rule {o : Op} {op : CmpOp} (hu : X.A.units + 64 < cLine) (h : cmpOf o = some op) : OpR X (compareOp op) (rCmpO X.K o) := by
  cases o <;> first | (cases h; done) | (cases h)
  · exact op_eqP hu
  · exact op_neP hu
  · exact op_ltD
  · exact op_leD
  · exact op_gtD
  · exact op_geD
  · exact op_inP hu
  · exact op_notInP hu
  · exact op_isBl
  · exact op_notBl
theorem cmp_ok {K : PySem.W.Frag} {o : Op} {op : CmpOp} (h : cmpOf o = some op) : OpOk K (r2n (rCmpO K o)) (opSem o) := by
  cases o <;> first | (cases h; done) | (cases h)
  · exact ok_eq
  · exact ok_ne
  · exact ok_lt
  · exact ok_le
  · exact ok_gt
  · exact ok_ge
  · exact ok_isin
  · exact ok_notin
  · exact ok_isB
  · exact ok_notB
/-- a comparison gives a bool -/
theorem cmp_bool {o : Op} {op : CmpOp} {ds : List D} {d : D} (h : cmpOf o = some op) (hs : opSem o ds = some d) : ∃ b, d = .imm (.bl b) := by
  have two : ∀ {f : Int → Int → Bool} {g : List Nat → List Nat → Bool} {x y : D}, opCmpI f g x y = some d → ∃ b, d = .imm (.bl b) := fun {f g x y} h => by
    unfold opCmpI at h
    split at h
    · exact ⟨_, ib_inv h⟩
    · exact ⟨_, ib_inv h⟩
    · cases h
  have bnd : ∀ {x : Option Bool}, x.bind ib = some d → ∃ b, d = .imm (.bl b) := fun {x} h => by
    obtain ⟨b, _, h2⟩ := bind_some h
    exact ⟨_, ib_inv h2⟩
  have bndN : ∀ {x : Option Bool}, x.bind (fun b => ib (!b)) = some d → ∃ b, d = .imm (.bl b) := fun {x} h => by
    obtain ⟨b, _, h2⟩ := bind_some h
    exact ⟨_, ib_inv h2⟩
  have isb : ∀ {n : Bool} {x y : D}, isB2 n x y = some d → ∃ b, d = .imm (.bl b) := fun {n x y} h => by
    unfold isB2 at h
    split at h
    · exact ⟨_, ib_inv h⟩
    · cases h
  cases o <;> first | (cases h; done) | (cases h)
  all_goals
    match ds, hs with
    | [x, y], hs => first
      | exact two hs
      | exact bnd hs
      | exact bndN hs
      | exact isb hs
theorem snd_cmp {o : Op} {op : CmpOp} {a b : E} {x y : Expr} {pos : Pos} (g : Good T Φ k sc X) (h : cmpOf o = some op) (hm : notSet y = true) (ha : PE X x (tO X.K (evo Φ T.G a))) (hb : PE X y (tO X.K (evo Φ T.G b))) : PE X (.Compare x [op] [y] pos) (tO X.K (evo Φ T.G (.op o [a, b]))) :=
  PE.weak (pe_cmpR (cmp_rule g.hu h) ha hb (notSet_mark hm)) fun σ H Q => tOp_of (cmp_ok h)
/-- a test's reading of a value -/
def tTst (K : PySem.W.Frag) (f : M Opd) : TT := fun σ H Q => ∃ e F o e' d b, EnvRep K H σ e F ∧ F.Nodup ∧ f e = some (o, e') ∧ resv e' o = some d ∧ truth d = some b ∧
  ∀ H' F', EnvRep K H' σ e' F' → F'.Nodup → Stp H F H' F' → Q b H'
theorem stp_drop {H H' : Hp} {F Fd F' : List Addr} (s : Stp H F H' (Fd ++ F')) : Stp H F H' F' := s.less (fun a z => z) fun a z => List.mem_append_right _ z
theorem snd_tcmp {o : Op} {op : CmpOp} {a b : E} {x y : Expr} {pos : Pos} (g : Good T Φ k sc X) (h : cmpOf o = some op) (hm : notSet y = true) (ha : PE X x (tO X.K (evo Φ T.G a))) (hb : PE X y (tO X.K (evo Φ T.G b))) : PT X (.Compare x [op] [y] pos) (tTst X.K (evo Φ T.G (.op o [a, b]))) :=
  PT.weak (pt_cmpR (cmp_rule g.hu h) ha hb (notSet_mark hm)) fun σ H Q q => by
    obtain ⟨e, F, o', e', d, c, he, n, hf, hr, ht, hQ⟩ := q
    refine tOp_of (cmp_ok h) ⟨e, F, o', e', he, n, hf, fun v H1 Fd F1 ox he1 n1 s1 => ?_⟩
    obtain ⟨os, ds, d', _, _, h5, rfl⟩ := evo_op hf
    obtain ⟨b', rfl⟩ := cmp_bool h h5
    cases hr
    cases ht
    obtain rfl := (show Rep X.K H1 v (.imm (.bl _)) Fd from ox).bl_of
    exact ⟨_, rfl, hQ H1 F1 he1 (nd_right n1) (stp_drop s1)⟩
/-- is None -/
theorem snd_isN {a : E} {x : Expr} {j : Nat} {p pos : Pos} (ha : PE X x (tO X.K (evo Φ T.G a))) : PE X (.Compare x [.Is] [.Constant .none j p] pos) (tO X.K (evo Φ T.G (.op .isN [a]))) :=
  PE.weak (pe_cmp (pc_isN ha)) fun σ H Q => tUn_of ok_isN
theorem snd_notN {a : E} {x : Expr} {j : Nat} {p pos : Pos} (ha : PE X x (tO X.K (evo Φ T.G a))) : PE X (.Compare x [.IsNot] [.Constant .none j p] pos) (tO X.K (evo Φ T.G (.op .notN [a]))) :=
  PE.weak (pe_cmp (pc_notN ha)) fun σ H Q => tUn_of ok_notN
theorem isN_bool {ds : List D} {d : D} (hs : opSem .isN ds = some d) : ∃ b, d = .imm (.bl b) := by
  match ds, hs with
  | [x], hs => exact ⟨_, ib_inv hs⟩
theorem notN_bool {ds : List D} {d : D} (hs : opSem .notN ds = some d) : ∃ b, d = .imm (.bl b) := by
  match ds, hs with
  | [x], hs => exact ⟨_, ib_inv hs⟩
theorem snd_tisN {a : E} {x : Expr} {j : Nat} {p pos : Pos} (ha : PE X x (tO X.K (evo Φ T.G a))) : PT X (.Compare x [.Is] [.Constant .none j p] pos) (tTst X.K (evo Φ T.G (.op .isN [a]))) :=
  PT.weak (pt_cmp (pc_isN ha)) fun σ H Q q => by
    obtain ⟨e, F, o', e', d, c, he, n, hf, hr, ht, hQ⟩ := q
    refine tUn_of (Q := fun x H1 => ∃ c, x = .bl c ∧ Q c H1) ok_isN ⟨e, F, o', e', he, n, hf, fun v H1 Fd F1 ox he1 n1 s1 => ?_⟩
    obtain ⟨os, ds, d', _, _, h5, rfl⟩ := evo_op hf
    obtain ⟨b', rfl⟩ := isN_bool h5
    cases hr
    cases ht
    obtain rfl := (show Rep X.K H1 v (.imm (.bl _)) Fd from ox).bl_of
    exact ⟨_, rfl, hQ H1 F1 he1 (nd_right n1) (stp_drop s1)⟩
theorem snd_tnotN {a : E} {x : Expr} {j : Nat} {p pos : Pos} (ha : PE X x (tO X.K (evo Φ T.G a))) : PT X (.Compare x [.IsNot] [.Constant .none j p] pos) (tTst X.K (evo Φ T.G (.op .notN [a]))) :=
  PT.weak (pt_cmp (pc_notN ha)) fun σ H Q q => by
    obtain ⟨e, F, o', e', d, c, he, n, hf, hr, ht, hQ⟩ := q
    refine tUn_of (Q := fun x H1 => ∃ c, x = .bl c ∧ Q c H1) ok_notN ⟨e, F, o', e', he, n, hf, fun v H1 Fd F1 ox he1 n1 s1 => ?_⟩
    obtain ⟨os, ds, d', _, _, h5, rfl⟩ := evo_op hf
    obtain ⟨b', rfl⟩ := notN_bool h5
    cases hr
    cases ht
    obtain rfl := (show Rep X.K H1 v (.imm (.bl _)) Fd from ox).bl_of
    exact ⟨_, rfl, hQ H1 F1 he1 (nd_right n1) (stp_drop s1)⟩
/-- -x, x[i], x[::-1] -/
theorem snd_neg {a : E} {x : Expr} {pos : Pos} (ha : PE X x (tO X.K (evo Φ T.G a))) : PE X (.UnaryOp .USub x pos) (tO X.K (evo Φ T.G (.op .neg [a]))) :=
  PE.weak (pe_un un_neg ha) fun σ H Q => tUn_of ok_neg
theorem snd_idx {a b : E} {x y : Expr} {pos : Pos} (g : Good T Φ k sc X) (hs : notSlice y = true) (ha : PE X x (tO X.K (evo Φ T.G a))) (hb : PE X y (tO X.K (evo Φ T.G b))) : PE X (.Subscript x y pos) (tO X.K (evo Φ T.G (.op .idx [a, b]))) :=
  PE.weak (pe_ix (ix_seqD g.hu) ha hb (plainIx_of hs)) fun σ H Q => tOp_of ok_idx
theorem snd_rev {a : E} {x st : Expr} {p3 pos : Pos} (hs : isNeg1 st = true) (ha : PE X x (tO X.K (evo Φ T.G a))) : PE X (.Subscript x (.Slice none none (some st) p3) pos) (tO X.K (evo Φ T.G (.op .rev [a]))) := by
  unfold isNeg1 at hs
  split at hs
  · exact PE.weak (pe_revD ha (po_some (pe_un un_neg pe_int)) (fun σ H Q q => ⟨1, rfl, -1, rfl, q⟩)) fun σ H Q => tUn_of ok_rev
  · exact PE.weak (pe_revD ha (po_some (pe_op op_sub pe_int pe_int)) (fun σ H Q q => ⟨0, 1, rfl, rfl, -1, rfl, q⟩)) fun σ H Q => tUn_of ok_rev
  · cases hs
/-- built-ins by name -/
theorem r2_call {r : R2} {R : List V → Hp → VK → Prop} {K : PySem.W.Frag} {o : Op} (ok : OpOk K (r2n r) (opSem o)) (h : ∀ x y H Q, r x y H Q → R [x, y] H Q) : OpOk K R (opSem o) := fun vs ds H Q d pk hs hQ => by
  obtain ⟨x, y, rfl, q⟩ := ok vs ds H Q d pk hs hQ
  exact h x y H Q q
theorem r1_call {r : V → Hp → VK → Prop} {R : List V → Hp → VK → Prop} {K : PySem.W.Frag} {o : Op} (ok : OpOk K (r1n r) (opSem o)) (h : ∀ x H Q, r x H Q → R [x] H Q) : OpOk K R (opSem o) := fun vs ds H Q d pk hs hQ => by
  obtain ⟨x, rfl, q⟩ := ok vs ds H Q d pk hs hQ
  exact h x H Q q
section
variable {o : Op} {x : Str} {id : String} {es : List E} {y : Expr} {ys : List Expr} {p pos : Pos} {r : List V → Hp → VK → Prop}
theorem snd_bltB (g : Good T Φ k sc X) (hc : CallR X (.builtin id) r) (ok : OpOk X.K r (opSem o)) (hv : bootBuiltins x = some (.builtin id)) (hx : x ∈ bltNames) (hg : glB sc x = true) (hst : (y :: ys).all notStar = true) (h : PA X (y :: ys) (tOs X.K (evos Φ T.G es))) :
    PE X (.Call (.Name x p) (y :: ys) [] pos) (tO X.K (evo Φ T.G (.op o es))) := by
  obtain ⟨g1, g2, g3⟩ := gl_of hg
  rw [List.all_cons, Bool.and_eq_true] at hst
  exact PE.weak (pe_callB hc (g.gl g1) (g.blt _ hx) hv h g3 g2 (star_of hst.1 _ _) (stars_of hst.2)) fun σ H Q => tCB_of ok
theorem snd_bltT (g : Good T Φ k sc X) (hc : CallR X (.type id) r) (ok : OpOk X.K r (opSem o)) (hv : bootBuiltins x = some (.type id)) (hx : x ∈ bltNames) (hg : glB sc x = true) (hst : (y :: ys).all notStar = true) (h : PA X (y :: ys) (tOs X.K (evos Φ T.G es))) :
    PE X (.Call (.Name x p) (y :: ys) [] pos) (tO X.K (evo Φ T.G (.op o es))) := by
  obtain ⟨g1, g2, g3⟩ := gl_of hg
  rw [List.all_cons, Bool.and_eq_true] at hst
  exact PE.weak (pe_callTy hc (g.gl g1) (g.blt _ hx) hv h g3 g2 (star_of hst.1 _ _) (stars_of hst.2)) fun σ H Q => tCB_of ok
end
theorem snd_blt {o : Op} {x : Str} {fv : Value} {n : Nat} {es : List E} {xs : List Expr} {p pos : Pos} (g : Good T Φ k sc X) (hb : bltOf o = some (x, fv, n)) (hg : glB sc x = true) (hn : xs.length = n) (hst : xs.all notStar = true) (h : PA X xs (tOs X.K (evos Φ T.G es))) :
    PE X (.Call (.Name x p) xs [] pos) (tO X.K (evo Φ T.G (.op o es))) := by
  cases xs with
  | nil => cases o <;> first | (cases hb; done) | (cases hb; cases hn)
  | cons y ys =>
    cases o <;> first | (cases hb; done) | (cases hb)
    · exact snd_bltB g cr_lenD ok_len (by decide +kernel) (by decide) hg hst h
    · exact snd_bltT g (call_listD g.calm) ok_list (by decide +kernel) (by decide) hg hst h
    · exact snd_bltT g (call_tupD g.calm) ok_tuple (by decide +kernel) (by decide) hg hst h
    · exact snd_bltB g (call_min2 g.calm) (r2_call ok_min2 fun x y H Q ⟨i, j, e1, e2, q⟩ => ⟨i, j, by rw [e1, e2], q⟩) (by decide +kernel) (by decide) hg hst h
    · exact snd_bltB g (call_max2 g.calm) (r2_call ok_max2 fun x y H Q ⟨i, j, e1, e2, q⟩ => ⟨i, j, by rw [e1, e2], q⟩) (by decide +kernel) (by decide) hg hst h
    · exact snd_bltT g call_int1 ok_int (by decide +kernel) (by decide) hg hst h
    · exact snd_bltB g call_abs (r1_call ok_abs fun x H Q ⟨i, e1, q⟩ => ⟨i, by rw [e1], q⟩) (by decide +kernel) (by decide) hg hst h
    · exact snd_bltB g (cr_sum g.calm) ok_sum (by decide +kernel) (by decide) hg hst h
    · exact snd_bltB g (cr_allD g.calm) ok_all (by decide +kernel) (by decide) hg hst h
    · exact snd_bltB g (cr_anyD g.calm) ok_any (by decide +kernel) (by decide) hg hst h
    · exact snd_bltB g (cr_sort2 g.calm g.hu) ok_sort2 (by decide +kernel) (by decide) hg hst h
    · exact snd_bltB g (cr_minD g.calm g.hu) ok_minL (by decide +kernel) (by decide) hg hst h
    · exact snd_bltB g (cr_maxD g.calm g.hu) ok_maxL (by decide +kernel) (by decide) hg hst h
    · exact snd_bltB g cr_repr ok_repr (by decide +kernel) (by decide) hg hst h
/-! ### isinstance -/
theorem tyNm_of {t : Ty} {e : Expr} (h : tyNm sc t e = true) : ∃ x p, e = .Name x p ∧ x = (tyName t : Str) ∧ glB sc x = true := by
  unfold tyNm at h
  split at h
  · rw [Bool.and_eq_true] at h
    exact ⟨_, _, rfl, of_decide_eq_true h.1, h.2⟩
  · cases h
theorem pe_ty {t : Ty} {e : Expr} (g : Good T Φ k sc X) (h : tyNm sc t e = true) : PE X e (tC (.ty (tyName t))) := by
  obtain ⟨x, p, rfl, rfl, h2⟩ := tyNm_of h
  obtain ⟨g1, g2, g3⟩ := gl_of h2
  cases t
  · exact pe_bltn (g.gl g1) (g.blt _ (by decide)) (by decide +kernel) (show RelV (.ty "int") (.type "int") from rfl) g3 g2
  · exact pe_bltn (g.gl g1) (g.blt _ (by decide)) (by decide +kernel) (show RelV (.ty "bool") (.type "bool") from rfl) g3 g2
  · exact pe_bltn (g.gl g1) (g.blt _ (by decide)) (by decide +kernel) (show RelV (.ty "str") (.type "str") from rfl) g3 g2
  · exact pe_bltn (g.gl g1) (g.blt _ (by decide)) (by decide +kernel) (show RelV (.ty "tuple") (.type "tuple") from rfl) g3 g2
  · exact pe_bltn (g.gl g1) (g.blt _ (by decide)) (by decide +kernel) (show RelV (.ty "list") (.type "list") from rfl) g3 g2
/-- the classes' names as values -/
def tTys (ts : List Ty) : TA := fun _ H Q => Q (ts.map fun t => .ty (tyName t)) H
theorem pa_tys (g : Good T Φ k sc X) : ∀ {ts : List Ty} {es : List Expr}, tyNms sc ts es = true → PA X es (tTys ts)
  | [], [], _ => PA.weak pa_nil fun σ H Q q => q
  | t :: ts, e :: es, h => by
    unfold tyNms at h
    rw [Bool.and_eq_true] at h
    obtain ⟨x, p, rfl, _, _⟩ := tyNm_of h.1
    exact PA.weak (pa_cons (pe_ty g h.1) (pa_tys g h.2)) fun σ H Q q => q
  | [], _ :: _, h => by cases h
  | _ :: _, [], h => by cases h
theorem evo_isi {a : E} {ts : List Ty} {e e1 : En} {r : Opd} (h : evo Φ T.G (.op (.isi ts) [a]) e = some (r, e1)) : ∃ x d, evo Φ T.G a e = some (x, e1) ∧ resv e1 x = some d ∧ isDic d = false ∧ r = .tmp (.imm (.bl (ts.any (isTy (rd d))))) := by
  obtain ⟨os, ds, d, h1, h2, h3, rfl⟩ := evo_op h
  obtain ⟨x, h4, rfl⟩ := evos_one h1
  unfold resvs at h2
  obtain ⟨d0, h5, h6⟩ := bind_some h2
  simp only [resvs, Option.bind_some] at h6
  cases h6
  have h3 : (if isDic d0 then none else ib (ts.any (isTy (rd d0)))) = some d := h3
  split at h3
  · cases h3
  · rename_i nd
    exact ⟨x, d0, h4, h5, by simpa using nd, by rw [ib_inv h3]⟩
theorem snd_isi1 {a : E} {t : Ty} {x c : Expr} {p pos : Pos} (g : Good T Φ k sc X) (hg : glB sc "isinstance" = true) (hx : notStar x = true) (hc : tyNm sc t c = true) (ha : PE X x (tO X.K (evo Φ T.G a))) :
    PE X (.Call (.Name "isinstance" p) [x, c] [] pos) (tO X.K (evo Φ T.G (.op (.isi [t]) [a]))) := by
  obtain ⟨g1, g2, g3⟩ := gl_of hg
  obtain ⟨y, q, rfl, _, _⟩ := tyNm_of hc
  refine PE.weak (pe_callB call_isi (g.gl g1) (g.blt _ (by decide)) (by decide +kernel) (pa_cons ha (pa_cons (pe_ty g hc) pa_nil) (star_of hx _ _)) g3 g2 (star_of hx _ _) (stars_of rfl)) fun σ H Q h => ?_
  obtain ⟨e, F, o, e', he, n, hf, hQ⟩ := h
  obtain ⟨z, d, h1, h2, nd, rfl⟩ := evo_isi hf
  refine tO_mk he n h1 fun v H1 Fd F1 ox he1 n1 s1 => ?_
  obtain ⟨F0, r0⟩ := resv_ok he1 ox h2
  refine isi_one r0 nd ?_
  rw [List.any_cons, List.any_nil, Bool.or_false] at hQ
  exact hQ _ H1 [] F1 (Rep.imm (.bl _)) he1 (nd_right n1) (stp_drop s1)
theorem snd_isiT {a : E} {ts : List Ty} {x : Expr} {cs : List Expr} {j : Nat} {p p2 pos : Pos} (g : Good T Φ k sc X) (hg : glB sc "isinstance" = true) (hx : notStar x = true) (hc : tyNms sc ts cs = true) (hl : ts.length ≤ 10) (ha : PE X x (tO X.K (evo Φ T.G a))) :
    PE X (.Call (.Name "isinstance" p) [x, .Tuple cs j p2] [] pos) (tO X.K (evo Φ T.G (.op (.isi ts) [a]))) := by
  obtain ⟨g1, g2, g3⟩ := gl_of hg
  refine PE.weak (pe_callB call_isiT (g.gl g1) (g.blt _ (by decide)) (by decide +kernel) (pa_cons ha (pa_cons (pe_tup (pa_tys g hc)) pa_nil) (star_of hx _ _)) g3 g2 (star_of hx _ _) (stars_of rfl)) fun σ H Q h => ?_
  obtain ⟨e, F, o, e', he, n, hf, hQ⟩ := h
  obtain ⟨z, d, h1, h2, nd, rfl⟩ := evo_isi hf
  refine tO_mk he n h1 fun v H1 Fd F1 ox he1 n1 s1 => ?_
  obtain ⟨F0, r0⟩ := resv_ok he1 ox h2
  refine ⟨by rw [List.length_map, sizeLine_is]; omega, fun q hq => ?_⟩
  have sm := same_new (o := HO.tup (ts.map fun t => V.ty (tyName t))) hq
  refine isi_many (r0.same sm) nd upd_same ?_
  exact hQ _ _ [] F1 (Rep.imm (.bl _)) (he1.same sm) (nd_right n1) ((stp_drop s1).trans (Stp.of_same sm))
end
end Sw
set_option maxHeartbeats 1000000
/-! Sw, part 13: soundness, slices, truth, methods, calls. -/
namespace Sw
open PySem PySem.Spec PyProof.Rows L2
section
variable {T : Tab} {Φ : CallS} {k : Nat} {sc : Scope} {X : Cx}
/-! ### slices -/
def tOpt (K : PySem.W.Frag) (f : M (Option Int)) : TO := fun σ H Q => ∃ e F o e', EnvRep K H σ e F ∧ F.Nodup ∧ f e = some (o, e') ∧ ∀ H' F', EnvRep K H' σ e' F' → F'.Nodup → Stp H F H' F' → Q o H'
theorem PO.weak {X : Cx} {e : Option Expr} {t t' : TO} (h : PO X e t) (w : ∀ σ H Q, t' σ H Q → t σ H Q) : PO X e t' := ⟨fun pins s σ H Q I q => h.run pins s σ H Q I (w σ H Q q)⟩
theorem snd_onone : PO X none (tOpt X.K (evopt Φ T.G none)) := PO.weak po_none fun σ H Q h => by
  obtain ⟨e, F, o, e', he, n, hf, hQ⟩ := h
  simp only [evopt, Option.some.injEq, Prod.mk.injEq] at hf
  obtain ⟨rfl, rfl⟩ := hf
  exact hQ H F he n (Stp.refl H F)
theorem snd_osome {a : E} {x : Expr} (ha : PE X x (tO X.K (evo Φ T.G a))) : PO X (some x) (tOpt X.K (evopt Φ T.G (some a))) := PO.weak (po_some ha) fun σ H Q h => by
  obtain ⟨e, F, o, e', he, n, hf, hQ⟩ := h
  simp only [evopt] at hf
  obtain ⟨⟨y, e1⟩, h1, h2⟩ := bind_some hf
  obtain ⟨i, h3, h4⟩ := bind_some h2
  cases h4
  refine tO_mk he n h1 fun v H1 Fd F1 ox he1 n1 s1 => ?_
  cases y with
  | slot _ => cases h3
  | tmp d =>
    cases d with
    | lst _ => cases h3
    | dic _ _ => cases h3
    | imm p =>
      cases p <;> first | (cases h3; done) | skip
      cases h3
      obtain rfl := (show Rep X.K H1 v (.imm (.int _)) Fd from ox).int_of
      exact ⟨_, rfl, hQ H1 F1 he1 (nd_right n1) (stp_drop s1)⟩
theorem snd_slc {a : E} {lo hi : Option E} {x : Expr} {l h : Option Expr} {p2 pos : Pos} (ha : PE X x (tO X.K (evo Φ T.G a))) (hl : PO X l (tOpt X.K (evopt Φ T.G lo))) (hh : PO X h (tOpt X.K (evopt Φ T.G hi))) :
    PE X (.Subscript x (.Slice l h none p2) pos) (tO X.K (evo Φ T.G (.slc a lo hi))) := PE.weak (pe_slice sl_D ha hl hh) fun σ H Q h => by
  obtain ⟨e, F, o, e', he, n, hf, hQ⟩ := h
  simp only [evo] at hf
  obtain ⟨⟨y, e1⟩, h1, hf⟩ := bind_some hf
  obtain ⟨⟨li, e2⟩, h2, hf⟩ := bind_some hf
  obtain ⟨⟨ui, e3⟩, h3, hf⟩ := bind_some hf
  obtain ⟨d, h4, hf⟩ := bind_some hf
  obtain ⟨r, h5, hf⟩ := bind_some hf
  cases hf
  refine tO_mk he n h1 fun v H1 Fd F1 ox he1 n1 s1 => ⟨e1, F1, li, e2, he1, nd_right n1, h2, fun H2 F2 he2 n2 s2 => ⟨e2, F2, ui, _, he2, n2, h3, fun H3 F3 he3 n3 s3 => ?_⟩⟩
  have ox2 := ox.frame he1 n1 s2
  obtain ⟨sa, na⟩ := stp_two s1 n1 ox.mut s2 n2
  have ox3 := ox2.frame he2 na s3
  obtain ⟨sb, nb⟩ := stp_two sa na ox2.mut s3 n3
  obtain ⟨F0, r0⟩ := resv_ok he3 ox3 h4
  refine slc_ok r0 h5 fun w H4 F4 sm rp fr n4 => ?_
  obtain ⟨sc4, nc4⟩ := stp_new sb nb he3.mut sm fr n4
  exact hQ w H4 F4 F3 rp (he3.same sm) nc4 sc4
/-! ### truth -/
theorem snd_tst {a : E} {x : Expr} (hp : plainTest x = true) (ha : PE X x (tO X.K (evo Φ T.G a))) : PT X x (tTst X.K (evo Φ T.G a)) := PT.weak (pt_truth ha (plainTest_of hp _)) fun σ H Q h => by
  obtain ⟨e, F, o, e', d, b, he, n, hf, hr, ht, hQ⟩ := h
  refine tO_mk he n hf fun v H1 Fd F1 ox he1 n1 s1 => ?_
  obtain ⟨F0, r0⟩ := resv_ok he1 ox hr
  exact ⟨b, truth_ok r0 ht, hQ H1 F1 he1 (nd_right n1) (stp_drop s1)⟩
theorem evo_not {a : E} {e e1 : En} {r : Opd} (h : evo Φ T.G (.not a) e = some (r, e1)) : ∃ x d b, evo Φ T.G a e = some (x, e1) ∧ resv e1 x = some d ∧ truth d = some b ∧ r = .tmp (.imm (.bl (!b))) := by
  simp only [evo] at h
  obtain ⟨⟨x, e2⟩, h1, h⟩ := bind_some h
  obtain ⟨d, h2, h⟩ := bind_some h
  obtain ⟨b, h3, h⟩ := bind_some h
  cases h
  exact ⟨x, d, b, h1, h2, h3, rfl⟩
theorem snd_not {a : E} {x : Expr} {pos : Pos} (ha : PE X x (tO X.K (evo Φ T.G a))) : PE X (.UnaryOp .Not x pos) (tO X.K (evo Φ T.G (.not a))) := PE.weak (pe_notT ha) fun σ H Q h => by
  obtain ⟨e, F, o, e', he, n, hf, hQ⟩ := h
  obtain ⟨y, d, b, h1, h2, h3, rfl⟩ := evo_not hf
  refine tO_mk he n h1 fun v H1 Fd F1 ox he1 n1 s1 => ?_
  obtain ⟨F0, r0⟩ := resv_ok he1 ox h2
  exact ⟨b, truth_ok r0 h3, hQ _ H1 [] F1 (Rep.imm (.bl _)) he1 (nd_right n1) (stp_drop s1)⟩
theorem snd_tnot {a : E} {x : Expr} {pos : Pos} (ha : PT X x (tTst X.K (evo Φ T.G a))) : PT X (.UnaryOp .Not x pos) (tTst X.K (evo Φ T.G (.not a))) := PT.weak (pt_not ha) fun σ H Q h => by
  obtain ⟨e, F, o, e', d, b, he, n, hf, hr, ht, hQ⟩ := h
  obtain ⟨y, d2, b2, h1, h2, h3, rfl⟩ := evo_not hf
  cases hr
  cases ht
  exact ⟨e, F, y, e', d2, b2, he, n, h1, h2, h3, hQ⟩
theorem evo_ife {t a b : E} {e e2 : En} {r : Opd} (h : evo Φ T.G (.ife t a b) e = some (r, e2)) : ∃ x d k e1, evo Φ T.G t e = some (x, e1) ∧ resv e1 x = some d ∧ truth d = some k ∧ (if k then evo Φ T.G a e1 else evo Φ T.G b e1) = some (r, e2) := by
  simp only [evo] at h
  obtain ⟨⟨x, e1⟩, h1, h⟩ := bind_some h
  obtain ⟨d, h2, h⟩ := bind_some h
  obtain ⟨b, h3, h⟩ := bind_some h
  exact ⟨x, d, b, e1, h1, h2, h3, h⟩
theorem snd_ife {t a b : E} {x y z : Expr} {pos : Pos} (ht : PT X x (tTst X.K (evo Φ T.G t))) (ha : PE X y (tO X.K (evo Φ T.G a))) (hb : PE X z (tO X.K (evo Φ T.G b))) : PE X (.IfExp x y z pos) (tO X.K (evo Φ T.G (.ife t a b))) := PE.weak (pe_ifExp ht ha hb) fun σ H Q h => by
  obtain ⟨e, F, o, e', he, n, hf, hQ⟩ := h
  obtain ⟨w, d, k, e1, h1, h2, h3, h4⟩ := evo_ife hf
  refine ⟨e, F, w, e1, d, k, he, n, h1, h2, h3, fun H1 F1 he1 n1 s1 => ?_⟩
  cases k with
  | true =>
    rw [if_pos rfl] at h4 ⊢
    exact tO_mk he1 n1 h4 fun v H2 Fd F2 ox he2 n2 s2 => hQ v H2 Fd F2 ox he2 n2 (s1.trans s2)
  | false =>
    rw [if_neg Bool.false_ne_true] at h4 ⊢
    exact tO_mk he1 n1 h4 fun v H2 Fd F2 ox he2 n2 s2 => hQ v H2 Fd F2 ox he2 n2 (s1.trans s2)
/-! ### and, or -/
theorem evand_one {a : E} {e : En} : evand Φ T.G [a] e = evo Φ T.G a e := by simp only [evand]
theorem evor_one {a : E} {e : En} : evor Φ T.G [a] e = evo Φ T.G a e := by simp only [evor]
theorem evand_two {a b : E} {as : List E} {e e2 : En} {r : Opd} (h : evand Φ T.G (a :: b :: as) e = some (r, e2)) : ∃ x d k e1, evo Φ T.G a e = some (x, e1) ∧ resv e1 x = some d ∧ truth d = some k ∧ (if k then evand Φ T.G (b :: as) e1 else some (x, e1)) = some (r, e2) := by
  rw [evand] at h
  obtain ⟨⟨x, e1⟩, h1, h⟩ := bind_some h
  obtain ⟨d, h2, h⟩ := bind_some h
  obtain ⟨k, h3, h⟩ := bind_some h
  exact ⟨x, d, k, e1, h1, h2, h3, h⟩
theorem evor_two {a b : E} {as : List E} {e e2 : En} {r : Opd} (h : evor Φ T.G (a :: b :: as) e = some (r, e2)) : ∃ x d k e1, evo Φ T.G a e = some (x, e1) ∧ resv e1 x = some d ∧ truth d = some k ∧ (if k then some (x, e1) else evor Φ T.G (b :: as) e1) = some (r, e2) := by
  rw [evor] at h
  obtain ⟨⟨x, e1⟩, h1, h⟩ := bind_some h
  obtain ⟨d, h2, h⟩ := bind_some h
  obtain ⟨k, h3, h⟩ := bind_some h
  exact ⟨x, d, k, e1, h1, h2, h3, h⟩
theorem snd_and1 {a : E} {x : Expr} {pos : Pos} (ha : PE X x (tO X.K (evo Φ T.G a))) : PE X (.BoolOp .And [x] pos) (tO X.K (evand Φ T.G [a])) := PE.weak (pe_one ha) fun σ H Q h => by
  obtain ⟨e, F, o, e', he, n, hf, hQ⟩ := h
  rw [evand_one] at hf
  exact ⟨e, F, o, e', he, n, hf, hQ⟩
theorem snd_or1 {a : E} {x : Expr} {pos : Pos} (ha : PE X x (tO X.K (evo Φ T.G a))) : PE X (.BoolOp .Or [x] pos) (tO X.K (evor Φ T.G [a])) := PE.weak (pe_one ha) fun σ H Q h => by
  obtain ⟨e, F, o, e', he, n, hf, hQ⟩ := h
  rw [evor_one] at hf
  exact ⟨e, F, o, e', he, n, hf, hQ⟩
theorem snd_and2 {a b : E} {as : List E} {x y : Expr} {ys : List Expr} {pos : Pos} (ha : PE X x (tO X.K (evo Φ T.G a))) (hb : PE X (.BoolOp .And (y :: ys) pos) (tO X.K (evand Φ T.G (b :: as)))) : PE X (.BoolOp .And (x :: y :: ys) pos) (tO X.K (evand Φ T.G (a :: b :: as))) :=
  PE.weak (pe_andT ha hb) fun σ H Q h => by
    obtain ⟨e, F, o, e', he, n, hf, hQ⟩ := h
    obtain ⟨z, d, k, e1, h1, h2, h3, h4⟩ := evand_two hf
    refine tO_mk he n h1 fun v H1 Fd F1 ox he1 n1 s1 => ?_
    obtain ⟨F0, r0⟩ := resv_ok he1 ox h2
    refine ⟨k, truth_ok r0 h3, ?_⟩
    cases k with
    | true =>
      rw [if_pos rfl] at h4 ⊢
      exact tO_mk he1 (nd_right n1) h4 fun v H2 Fd F2 ox he2 n2 s2 => hQ v H2 Fd F2 ox he2 n2 ((stp_drop s1).trans s2)
    | false =>
      rw [if_neg Bool.false_ne_true] at h4 ⊢
      cases h4
      exact hQ v H1 Fd F1 ox he1 n1 s1
theorem snd_or2 {a b : E} {as : List E} {x y : Expr} {ys : List Expr} {pos : Pos} (ha : PE X x (tO X.K (evo Φ T.G a))) (hb : PE X (.BoolOp .Or (y :: ys) pos) (tO X.K (evor Φ T.G (b :: as)))) : PE X (.BoolOp .Or (x :: y :: ys) pos) (tO X.K (evor Φ T.G (a :: b :: as))) :=
  PE.weak (pe_orT ha hb) fun σ H Q h => by
    obtain ⟨e, F, o, e', he, n, hf, hQ⟩ := h
    obtain ⟨z, d, k, e1, h1, h2, h3, h4⟩ := evor_two hf
    refine tO_mk he n h1 fun v H1 Fd F1 ox he1 n1 s1 => ?_
    obtain ⟨F0, r0⟩ := resv_ok he1 ox h2
    refine ⟨k, truth_ok r0 h3, ?_⟩
    cases k with
    | false =>
      rw [if_neg Bool.false_ne_true] at h4 ⊢
      exact tO_mk he1 (nd_right n1) h4 fun v H2 Fd F2 ox he2 n2 s2 => hQ v H2 Fd F2 ox he2 n2 ((stp_drop s1).trans s2)
    | true =>
      rw [if_pos rfl] at h4 ⊢
      cases h4
      exact hQ v H1 Fd F1 ox he1 n1 s1
theorem snd_tand1 {a : E} {x : Expr} {pos : Pos} (ha : PT X x (tTst X.K (evo Φ T.G a))) : PW X (.BoolOp .And [x] pos) (tTst X.K (evand Φ T.G [a])) :=
  ⟨fun wh pins s σ H Q I h => (pw_and1 ha).run wh pins s σ H Q I (by
    obtain ⟨e, F, o, e', d, b, he, n, hf, hQ⟩ := h
    rw [evand_one] at hf
    exact ⟨e, F, o, e', d, b, he, n, hf, hQ⟩)⟩
theorem snd_tor1 {a : E} {x : Expr} {pos : Pos} (ha : PT X x (tTst X.K (evo Φ T.G a))) : PW X (.BoolOp .Or [x] pos) (tTst X.K (evor Φ T.G [a])) :=
  ⟨fun wh pins s σ H Q I h => (pw_or1 ha).run wh pins s σ H Q I (by
    obtain ⟨e, F, o, e', d, b, he, n, hf, hQ⟩ := h
    rw [evor_one] at hf
    exact ⟨e, F, o, e', d, b, he, n, hf, hQ⟩)⟩
theorem snd_tand2 {a b : E} {as : List E} {x y : Expr} {ys : List Expr} {pos : Pos} (ha : PT X x (tTst X.K (evo Φ T.G a))) (hb : PW X (.BoolOp .And (y :: ys) pos) (tTst X.K (evand Φ T.G (b :: as)))) : PW X (.BoolOp .And (x :: y :: ys) pos) (tTst X.K (evand Φ T.G (a :: b :: as))) :=
  ⟨fun wh pins s σ H Q I h => (pw_and ha hb).run wh pins s σ H Q I (by
    obtain ⟨e, F, o, e', d, c, he, n, hf, hr, ht, hQ⟩ := h
    obtain ⟨z, d0, k, e1, h1, h2, h3, h4⟩ := evand_two hf
    refine ⟨e, F, z, e1, d0, k, he, n, h1, h2, h3, fun H1 F1 he1 n1 s1 => ?_⟩
    cases k with
    | true =>
      rw [if_pos rfl] at h4 ⊢
      exact ⟨e1, F1, o, e', d, c, he1, n1, h4, hr, ht, fun H2 F2 he2 n2 s2 => hQ H2 F2 he2 n2 (s1.trans s2)⟩
    | false =>
      rw [if_neg Bool.false_ne_true] at h4 ⊢
      cases h4
      rw [h2] at hr
      cases hr
      rw [h3] at ht
      cases ht
      exact hQ H1 F1 he1 n1 s1)⟩
theorem snd_tor2 {a b : E} {as : List E} {x y : Expr} {ys : List Expr} {pos : Pos} (ha : PT X x (tTst X.K (evo Φ T.G a))) (hb : PW X (.BoolOp .Or (y :: ys) pos) (tTst X.K (evor Φ T.G (b :: as)))) : PW X (.BoolOp .Or (x :: y :: ys) pos) (tTst X.K (evor Φ T.G (a :: b :: as))) :=
  ⟨fun wh pins s σ H Q I h => (pw_or ha hb).run wh pins s σ H Q I (by
    obtain ⟨e, F, o, e', d, c, he, n, hf, hr, ht, hQ⟩ := h
    obtain ⟨z, d0, k, e1, h1, h2, h3, h4⟩ := evor_two hf
    refine ⟨e, F, z, e1, d0, k, he, n, h1, h2, h3, fun H1 F1 he1 n1 s1 => ?_⟩
    cases k with
    | false =>
      rw [if_neg Bool.false_ne_true] at h4 ⊢
      exact ⟨e1, F1, o, e', d, c, he1, n1, h4, hr, ht, fun H2 F2 he2 n2 s2 => hQ H2 F2 he2 n2 (s1.trans s2)⟩
    | true =>
      rw [if_pos rfl] at h4 ⊢
      cases h4
      rw [h2] at hr
      cases hr
      rw [h3] at ht
      cases ht
      exact hQ H1 F1 he1 n1 s1)⟩
/-! ### a < b < c -/
theorem evo_chain {o1 o2 : Op} {a b c : E} {e e3 : En} {r : Opd} (h : evo Φ T.G (.chain o1 o2 a b c) e = some (r, e3)) : ∃ x y e1 e2 ds k, evo Φ T.G a e = some (x, e1) ∧ evo Φ T.G b e1 = some (y, e2) ∧ resvs e2 [x, y] = some ds ∧ opSem o1 ds = some (.imm (.bl k)) ∧
    ((k = true ∧ ∃ z ds2 d, evo Φ T.G c e2 = some (z, e3) ∧ resvs e3 [y, z] = some ds2 ∧ opSem o2 ds2 = some d ∧ r = .tmp d) ∨ (k = false ∧ r = .tmp (.imm (.bl false)) ∧ e3 = e2)) := by
  simp only [evo] at h
  obtain ⟨⟨x, e1⟩, h1, h⟩ := bind_some h
  obtain ⟨⟨y, e2⟩, h2, h⟩ := bind_some h
  obtain ⟨ds, h3, h⟩ := bind_some h
  obtain ⟨d, h4, h⟩ := bind_some h
  split at h
  · obtain ⟨⟨z, e4⟩, h5, h⟩ := bind_some h
    obtain ⟨ds2, h6, h⟩ := bind_some h
    obtain ⟨d2, h7, h⟩ := bind_some h
    cases h
    exact ⟨x, y, e1, e2, ds, true, h1, h2, h3, h4, .inl ⟨rfl, z, ds2, d2, h5, h6, h7, rfl⟩⟩
  · cases h
    exact ⟨x, y, e1, _, ds, false, h1, h2, h3, h4, .inr ⟨rfl, rfl, rfl⟩⟩
  · cases h
theorem chain_reads {o1 o2 : Op} {p q : CmpOp} {a b c : E} {σ : L2.St} {H : Hp} {Q : VK} (hp : cmpOf o1 = some p) (hq : cmpOf o2 = some q) (h : tO X.K (evo Φ T.G (.chain o1 o2 a b c)) σ H Q) :
    tChain (rCmpO X.K o1) (rCmpO X.K o2) (tO X.K (evo Φ T.G a)) (tO X.K (evo Φ T.G b)) (tO X.K (evo Φ T.G c)) σ H Q := by
  obtain ⟨e, F, o, e', he, n, hf, hQ⟩ := h
  obtain ⟨x, y, e1, e2, ds, k, h1, h2, h3, h4, h5⟩ := evo_chain hf
  refine tO_mk he n h1 fun vx H1 Fx F1 ox he1 n1 s1 => tO_mk he1 (nd_right n1) h2 fun vy H2 Fy F2 oy he2 n2 s2 => ?_
  obtain ⟨s3, n3⟩ := stp_two s1 n1 ox.mut s2 n2
  have ox2 := ox.frame he1 n1 s2
  have pk := resvs_ok he2 (.cons ox2 (.cons oy .nil)) h3
  have cont : ∀ (z : V) (H3 : Hp) (F3 : List Addr), Same H2 H3 → Rep X.K H3 z (.imm (.bl k)) F3 → (∀ a ∈ F3, H2 a = none) → F3.Nodup → (∃ k, z = .bl k ∧ if k = true then tO X.K (evo Φ T.G c) σ H3 fun w' H4 => rCmpO X.K o2 vy w' H4 Q else Q (.bl false) H3) := fun z H3 F3 sm rp fr n4 => by
    obtain rfl := rp.bl_of
    refine ⟨k, rfl, ?_⟩
    have he3 := he2.same sm
    have sy : Stp H F H3 (Fy ++ F2) := (s3.less (fun a z => z) fun a z => List.mem_append_right _ z).trans (Stp.of_same sm)
    have oy3 : ORep X.K H3 σ vy y Fy := oy.mono (Keeps.of_same sm) (same_off sm oy.mut)
    rcases h5 with ⟨rfl, z, ds2, d, g1, g2, g3, rfl⟩ | ⟨rfl, rfl, rfl⟩
    · rw [if_pos rfl]
      refine tO_mk he3 (nd_right n2) g1 fun vz H4 Fz F4 oz he4 n4' s4 => ?_
      have oy4 := oy3.frame he3 n2 s4
      obtain ⟨s5, n5⟩ := stp_two sy n2 oy3.mut s4 n4'
      have rs : ORs X.K H4 σ [vy, vz] [y, z] (Fy ++ (Fz ++ [])) := .cons oy4 (.cons oz .nil)
      obtain ⟨u, v, e, q⟩ := ops_end (cmp_ok hq) rs he4 (by rw [List.append_nil, List.append_assoc]; exact n5) (by rw [List.append_nil, List.append_assoc]; exact s5) g2 g3 hQ
      cases e
      exact q
    · rw [if_neg Bool.false_ne_true]
      exact hQ _ H3 [] F2 (Rep.imm (.bl _)) he3 (nd_right n2) (stp_drop sy)
  obtain ⟨u, v, eq, q1⟩ := cmp_ok hp [vx, vy] ds H2 (fun z H3 => ∃ k, z = .bl k ∧ if k = true then tO X.K (evo Φ T.G c) σ H3 fun w' H4 => rCmpO X.K o2 vy w' H4 Q else Q (.bl false) H3) (.imm (.bl k)) pk h4 cont
  cases eq
  exact q1
theorem snd_chain {o1 o2 : Op} {p q : CmpOp} {a b c : E} {x y z : Expr} {pos : Pos} (g : Good T Φ k sc X) (hp : cmpOf o1 = some p) (hq : cmpOf o2 = some q) (hm : lastMarks [p, q] [y, z] = false)
    (ha : PE X x (tO X.K (evo Φ T.G a))) (hb : PE X y (tO X.K (evo Φ T.G b))) (hc : PE X z (tO X.K (evo Φ T.G c))) : PE X (.Compare x [p, q] [y, z] pos) (tO X.K (evo Φ T.G (.chain o1 o2 a b c))) :=
  PE.weak (pe_chain (cmp_rule g.hu hp) (cmp_rule g.hu hq) ha hb hc hm) fun σ H Q h => chain_reads hp hq h
theorem snd_tchain {o1 o2 : Op} {p q : CmpOp} {a b c : E} {x y z : Expr} {pos : Pos} (g : Good T Φ k sc X) (hp : cmpOf o1 = some p) (hq : cmpOf o2 = some q) (hm : lastMarks [p, q] [y, z] = false)
    (ha : PE X x (tO X.K (evo Φ T.G a))) (hb : PE X y (tO X.K (evo Φ T.G b))) (hc : PE X z (tO X.K (evo Φ T.G c))) : PT X (.Compare x [p, q] [y, z] pos) (tTst X.K (evo Φ T.G (.chain o1 o2 a b c))) :=
  PT.weak (pt_chain (cmp_rule g.hu hp) (cmp_rule g.hu hq) ha hb hc hm) fun σ H Q h => by
    obtain ⟨e, F, o', e', d, c', he, n, hf, hr, ht, hQ⟩ := h
    refine chain_reads (Q := fun x H' => ∃ k, x = .bl k ∧ Q k H') hp hq ⟨e, F, o', e', he, n, hf, fun v H1 Fd F1 ox he1 n1 s1 => ?_⟩
    have hb : ∃ b, o' = .tmp (.imm (.bl b)) := by
      obtain ⟨x, y, e1, e2, ds, k, h1, h2, h3, h4, h5⟩ := evo_chain hf
      rcases h5 with ⟨_, z, ds2, d, _, _, g3, rfl⟩ | ⟨_, rfl, _⟩
      · obtain ⟨b, rfl⟩ := cmp_bool hq g3
        exact ⟨b, rfl⟩
      · exact ⟨_, rfl⟩
    obtain ⟨b, rfl⟩ := hb
    cases hr
    cases ht
    obtain rfl := (show Rep X.K H1 v (.imm (.bl _)) Fd from ox).bl_of
    exact ⟨_, rfl, hQ H1 F1 he1 (nd_right n1) (stp_drop s1)⟩
end
end Sw
set_option maxHeartbeats 1000000
/-! Sw, part 14: soundness, methods, changes, calls. -/
namespace Sw
open PySem PySem.Spec PyProof.Rows L2
section
variable {T : Tab} {Φ : CallS} {k : Nat} {sc : Scope} {X : Cx}
/-! ### methods that read -/
def mthR (K : PySem.W.Frag) : Op → V → List V → Hp → VK → Prop
  | .join => rJoinD K
  | .index => rIndexP K
  | .swapcase => rTx2 Txt.swapcase
  | .lower => rTx2 Txt.lower
  | .upper => rTx2 Txt.upper
  | .find => rTI1 Txt.find
  | .find2 => rTI2 Txt.find3
  | .count => rTI1 Txt.count
  | .starts => rTB1 Txt.startswith
  | .starts2 => rTB2 Txt.startswith3
  | .ends => rTB1 Txt.endswith
  | .isup => rT0 Txt.isupper
  | .islo => rT0 Txt.islower
  | .get => rGet1
  | .get2 => rGet2
  | _ => fun _ _ _ _ => False
def mthT : Op → String
  | .join => "str"
  | .swapcase => "str"
  | .lower => "str"
  | .upper => "str"
  | .find => "str"
  | .find2 => "str"
  | .count => "str"
  | .starts => "str"
  | .starts2 => "str"
  | .ends => "str"
  | .isup => "str"
  | .islo => "str"
  | .get => "dict"
  | .get2 => "dict"
  | _ => "list"
theorem evo_mth {o : Op} {a : E} {es : List E} {e e2 : En} {r : Opd} (h : evo Φ T.G (.mth o a es) e = some (r, e2)) : ∃ x e1 d0 xs ds d, evo Φ T.G a e = some (x, e1) ∧ resv e1 x = some d0 ∧ rcvOk o d0 = true ∧ evos Φ T.G es e1 = some (xs, e2) ∧ resvs e2 (x :: xs) = some ds ∧ opSem o ds = some d ∧ r = .tmp d := by
  simp only [evo] at h
  obtain ⟨⟨x, e1⟩, h1, h⟩ := bind_some h
  obtain ⟨d0, h2, h⟩ := bind_some h
  split at h
  · rename_i c
    obtain ⟨⟨xs, e3⟩, h3, h⟩ := bind_some h
    obtain ⟨ds, h4, h⟩ := bind_some h
    obtain ⟨d, h5, h⟩ := bind_some h
    cases h
    exact ⟨x, e1, d0, xs, ds, d, h1, h2, c, h3, h4, h5, rfl⟩
  · cases h
theorem rcv_ty {K : PySem.W.Frag} {o : Op} {d : D} {v : V} {F : List Addr} {H : Hp} (c : rcvOk o d = true) (r : Rep K H v d F) : tyV K (mthT o) v H := by
  unfold rcvOk at c
  split at c
  · obtain ⟨rfl, _⟩ := r.str_of; rfl
  · obtain ⟨a, xs, rfl, h, _, _⟩ := r.lst_of; exact .inl ⟨rfl, xs, SqL.of h⟩
  · obtain ⟨a, xs, rfl, h, _⟩ := r.flst_of; exact .inl ⟨rfl, xs, h.sql⟩
  all_goals first
    | (obtain ⟨rfl, _⟩ := r.str_of; rfl)
    | (cases c; done)
    | (cases r with
       | dicK e _ => exact .inr (.inr (.inl ⟨rfl, .inl ⟨_, e⟩⟩))
       | dicT e _ => exact .inr (.inr (.inl ⟨rfl, .inr ⟨_, e⟩⟩)))
theorem mth_reads {o : Op} {a : E} {es : List E} {σ : L2.St} {H : Hp} {Q : VK} (ok : OpOk X.K (m2n (mthR X.K o)) (opSem o)) (h : tO X.K (evo Φ T.G (.mth o a es)) σ H Q) : tBM X.K (mthT o) (mthR X.K o) (tO X.K (evo Φ T.G a)) (tOs X.K (evos Φ T.G es)) σ H Q := by
  obtain ⟨e, F, o', e', he, n, hf, hQ⟩ := h
  obtain ⟨x, e1, d0, xs, ds, d, h1, h2, h3, h4, h5, h6, rfl⟩ := evo_mth hf
  refine tO_mk he n h1 fun v H1 Fx F1 ox he1 n1 s1 => ?_
  obtain ⟨F0, r0⟩ := resv_ok he1 ox h2
  refine ⟨rcv_ty h3 r0, e1, F1, xs, e', he1, nd_right n1, h4, fun vs H2 Fs F2 rs he2 n2 s2 => ?_⟩
  obtain ⟨s3, n3⟩ := stp_two s1 n1 ox.mut s2 n2
  have rs' : ORs X.K H2 σ (v :: vs) (x :: xs) (Fx ++ Fs) := .cons (ox.frame he1 n1 s2) rs
  obtain ⟨v', vs', e, q⟩ := ops_end ok rs' he2 (by rw [List.append_assoc]; exact n3) (by rw [List.append_assoc]; exact s3) h5 h6 hQ
  cases e
  exact q
theorem snd_mth {o : Op} {a : E} {es : List E} {x : Expr} {xs : List Expr} {nm : Str} {n : Nat} {apos cpos : Pos} (g : Good T Φ k sc X) (hm : mthOf o = some (nm, n)) (hn : xs.length = n) (hb : baseOk x = true) (hl : (apos.endLine == cpos.line) = true) (hst : xs.all notStar = true) (hel : es.length = xs.length)
    (ha : PE X x (tO X.K (evo Φ T.G a))) (hs : PA X xs (tOs X.K (evos Φ T.G es))) : PE X (.Call (.Attribute x nm apos) xs [] cpos) (tO X.K (evo Φ T.G (.mth o a es))) := by
  cases xs with
  | nil =>
    have key : es = [] → OpOk X.K (m2n (mthR X.K o)) (opSem o) → ∀ {σ : L2.St} {H : Hp} {Q : VK}, tO X.K (evo Φ T.G (.mth o a es)) σ H Q → tBM0 X.K (mthT o) (mthR X.K o) (tO X.K (evo Φ T.G a)) σ H Q := fun he ok {σ H Q} h => by
      subst he
      obtain ⟨e, F, x, e1, hx, n, hf, hQ⟩ := mth_reads ok h
      refine ⟨e, F, x, e1, hx, n, hf, fun v H1 Fd F1 ox he1 n1 s1 => ?_⟩
      obtain ⟨ty, e2, F2, os, e3, he2, n2, hf2, hQ2⟩ := hQ v H1 Fd F1 ox he1 n1 s1
      simp only [evos, Option.some.injEq, Prod.mk.injEq] at hf2
      obtain ⟨rfl, rfl⟩ := hf2
      exact ⟨ty, hQ2 [] H1 [] F2 .nil he2 n2 (Stp.refl H1 F2)⟩
    have hes : es = [] := by
      cases es with
      | nil => rfl
      | cons _ _ => cases hel
    cases o <;> first | (cases hm; done) | (cases hm; first | (cases hn; done) | skip)
    · exact PE.weak (pe_bm0 PySem.F.plainAttrs_str PySem.F.slot_str_isupper PySem.F.type_str_isupper mt_isupper ha (base_of hb _ _ _) hl) fun σ H Q => key hes (ok_T0 _)
    · exact PE.weak (pe_bm0 PySem.F.plainAttrs_str PySem.F.slot_str_islower PySem.F.type_str_islower mt_islower ha (base_of hb _ _ _) hl) fun σ H Q => key hes (ok_T0 _)
    · exact PE.weak (pe_bm0 PySem.F.plainAttrs_str PySem.F.slot_str_swapcase PySem.F.type_str_swapcase mt_swapcase ha (base_of hb _ _ _) hl) fun σ H Q => key hes ok_swapcase
    · exact PE.weak (pe_bm0 PySem.F.plainAttrs_str PySem.F.slot_str_lower PySem.F.type_str_lower mt_lower2 ha (base_of hb _ _ _) hl) fun σ H Q => key hes ok_lower
    · exact PE.weak (pe_bm0 PySem.F.plainAttrs_str PySem.F.slot_str_upper PySem.F.type_str_upper mt_upper2 ha (base_of hb _ _ _) hl) fun σ H Q => key hes ok_upper
  | cons y ys =>
    have hst' := hst
    rw [List.all_cons, Bool.and_eq_true] at hst
    have few : ∀ m : Nat, (y :: ys).length = m → m < 20 → ((backTo cpos (starEach (y :: ys) X.env)).all (fun x => !x.1) && (backToKw cpos (keywordEach [] X.env)).all (fun x => x.1.isSome)
      && decide ((y :: ys).length + ([] : List Keyword).length + (if ([] : List Keyword).isEmpty then 0 else 1) < 30)) = true := fun m h1 h2 => by
      rw [stars_all hst']
      show (true && true && decide ((y :: ys).length + 0 + 0 < 30)) = true
      rw [h1, decide_eq_true (by omega)] <;> rfl
    cases o <;> first | (cases hm; done) | (cases hm; first | (cases hn; done) | skip)
    · exact PE.weak (pe_bm PySem.F.plainAttrs_dict PySem.F.slot_dict_get PySem.F.type_dict_get (mt_get1 g.hu) ha hs (base_of hb _ _ _) (few 1 hn (by decide)) hl (star_of hst.1 _ _) (stars_of hst.2)) fun σ H Q => mth_reads ok_get1
    · exact PE.weak (pe_bm PySem.F.plainAttrs_dict PySem.F.slot_dict_get PySem.F.type_dict_get (mt_get2 g.hu) ha hs (base_of hb _ _ _) (few 2 hn (by decide)) hl (star_of hst.1 _ _) (stars_of hst.2)) fun σ H Q => mth_reads ok_get2
    · exact PE.weak (pe_bm PySem.F.plainAttrs_str PySem.F.slot_str_find PySem.F.type_str_find mt_find ha hs (base_of hb _ _ _) (few 1 hn (by decide)) hl (star_of hst.1 _ _) (stars_of hst.2)) fun σ H Q => mth_reads (ok_TI1 _)
    · exact PE.weak (pe_bm PySem.F.plainAttrs_str PySem.F.slot_str_find PySem.F.type_str_find mt_find3 ha hs (base_of hb _ _ _) (few 2 hn (by decide)) hl (star_of hst.1 _ _) (stars_of hst.2)) fun σ H Q => mth_reads (ok_TI2 _)
    · exact PE.weak (pe_bm PySem.F.plainAttrs_str PySem.F.slot_str_count PySem.F.type_str_count mt_count ha hs (base_of hb _ _ _) (few 1 hn (by decide)) hl (star_of hst.1 _ _) (stars_of hst.2)) fun σ H Q => mth_reads (ok_TI1 _)
    · exact PE.weak (pe_bm PySem.F.plainAttrs_str PySem.F.slot_str_startswith PySem.F.type_str_startswith mt_startswith ha hs (base_of hb _ _ _) (few 1 hn (by decide)) hl (star_of hst.1 _ _) (stars_of hst.2)) fun σ H Q => mth_reads (ok_TB1 _)
    · exact PE.weak (pe_bm PySem.F.plainAttrs_str PySem.F.slot_str_startswith PySem.F.type_str_startswith mt_startswith3 ha hs (base_of hb _ _ _) (few 2 hn (by decide)) hl (star_of hst.1 _ _) (stars_of hst.2)) fun σ H Q => mth_reads (ok_TB2 _)
    · exact PE.weak (pe_bm PySem.F.plainAttrs_str PySem.F.slot_str_endswith PySem.F.type_str_endswith mt_endswith ha hs (base_of hb _ _ _) (few 1 hn (by decide)) hl (star_of hst.1 _ _) (stars_of hst.2)) fun σ H Q => mth_reads (ok_TB1 _)
    · exact PE.weak (pe_bm PySem.F.plainAttrs_str PySem.F.slot_str_join PySem.F.type_str_join mt_join ha hs (base_of hb _ _ _) (few 1 hn (by decide)) hl (star_of hst.1 _ _) (stars_of hst.2)) fun σ H Q => mth_reads ok_join
    · exact PE.weak (pe_bm PySem.F.plainAttrs_list PySem.F.slot_list_index PySem.F.type_list_index (mt_indexP g.hu) ha hs (base_of hb _ _ _) (few 1 hn (by decide)) hl (star_of hst.1 _ _) (stars_of hst.2)) fun σ H Q => mth_reads ok_index
/-! ### methods that change a name's list -/
theorem evo_mut {m : MOp} {i : Nat} {es : List E} {e e2 : En} {r : Opd} (h : evo Φ T.G (.mut m i es) e = some (r, e2)) : ∃ d0 zs os e1 ds xs ys p, getE e i = some d0 ∧ listOf d0 = some zs ∧ evos Φ T.G es e = some (os, e1) ∧ resvs e1 os = some ds ∧ getE e1 i = some (.lst xs) ∧ mutSem m xs ds = some (ys, p) ∧ r = .tmp (.imm p) ∧ e2 = e1.set i (some (.lst ys)) := by
  simp only [evo] at h
  obtain ⟨d0, g0, h⟩ := bind_some h
  obtain ⟨zs, g1, h⟩ := bind_some h
  obtain ⟨⟨os, e1⟩, h1, h⟩ := bind_some h
  obtain ⟨⟨p, e3⟩, h2, h⟩ := bind_some h
  cases h
  unfold mutDo at h2
  obtain ⟨ds, h3, h2⟩ := bind_some h2
  split at h2
  · rename_i xs hx
    split at h2
    · rename_i c
      obtain ⟨⟨ys, q⟩, h4, h5⟩ := bind_some h2
      cases h5
      exact ⟨d0, zs, os, e1, ds, xs, ys, _, g0, g1, h1, h3, hx, h4, rfl, rfl⟩
    · cases h2
  · cases h2
theorem listOf_ty {K : PySem.W.Frag} {H : Hp} {d : D} {zs : List P} {v : V} {F : List Addr} (h : listOf d = some zs) (r : Rep K H v d F) : tyV K "list" v H := by
  unfold listOf at h
  split at h
  · obtain ⟨a, xs, rfl, h, _⟩ := r.flst_of; exact .inl ⟨rfl, xs, h.sql⟩
  · obtain ⟨a, xs, rfl, h, _, _⟩ := r.lst_of; exact .inl ⟨rfl, xs, SqL.of h⟩
  · cases h
theorem mut_reads {m : MOp} {i : Nat} {es : List E} {σ : L2.St} {H : Hp} {Q : VK} (h : tO X.K (evo Φ T.G (.mut m i es)) σ H Q) : tBM X.K "list" (rMutD X.K m) (tVar i) (tOs X.K (evos Φ T.G es)) σ H Q := by
  obtain ⟨e, F, o', e', he, n, hf, hQ⟩ := h
  obtain ⟨d0, zs, os, e1, ds, xs, ys, p, g0, g1, h1, h2, h3, h4, rfl, rfl⟩ := evo_mut hf
  obtain ⟨v0, Fi, q1, q2, _⟩ := he.get g0
  refine ⟨v0, q1, listOf_ty g1 q2, e, F, os, e1, he, n, h1, fun vs H2 Fs F2 rs he2 n2 s2 => ?_⟩
  obtain ⟨a, us, w1, w2, w3, w4, w5⟩ := he2.write (nd_right n2) h3
  rw [q1] at w1
  cases w1
  refine mut_ok w2 w3 (resvs_ok he2 rs h2) h4 fun v vs' r1 r2 => ?_
  obtain ⟨F3, k1, k2, k3, k4⟩ := w5 vs' ys r1
  exact hQ v _ [] F3 (Rep.imm (r2.keep (k4.keeps he2.mut))) k1 k2 ((stp_drop s2).trans k4)
theorem snd_mut {m : MOp} {i : Nat} {es : List E} {x : Str} {xs : List Expr} {p apos cpos : Pos} (g : Good T Φ k sc X) (hv : visB T.N sc i x = true) (hl : (apos.endLine == cpos.line) = true) (hn : xs.length < 20) (hst : xs.all notStar = true) (hel : es.length = xs.length)
    (hs : PA X xs (tOs X.K (evos Φ T.G es))) : PE X (.Call (.Attribute (.Name x p) (mmName m).1 apos) xs [] cpos) (tO X.K (evo Φ T.G (.mut m i es))) := by
  obtain ⟨h1, h2, h3, h4⟩ := vis_of hv
  have hx : PE X (.Name x p) (tVar i) := pe_var (i := i) (by rw [g.N]; exact h1) (by rw [g.scope]; exact h2) h3 h4
  cases xs with
  | nil =>
    cases es with
    | cons a as => cases hel
    | nil =>
      have key : ∀ {σ : L2.St} {H : Hp} {Q : VK}, tO X.K (evo Φ T.G (.mut m i [])) σ H Q → tBM0 X.K "list" (rMutD X.K m) (tVar i) σ H Q := fun {σ H Q} h => by
        obtain ⟨v, q1, q2, e, F, o, e', he, n, hf, hQ⟩ := mut_reads h
        simp only [evos, Option.some.injEq, Prod.mk.injEq] at hf
        obtain ⟨rfl, rfl⟩ := hf
        exact ⟨v, q1, q2, hQ [] H [] F .nil he n (Stp.refl H F)⟩
      cases m
      · exact PE.weak (pe_bm0 PySem.F.plainAttrs_list PySem.F.slot_list_append PySem.F.type_list_append (mt_mutD g.hu .append) hx (base_of rfl _ _ _) hl) fun σ H Q => key
      · exact PE.weak (pe_bm0 PySem.F.plainAttrs_list PySem.F.slot_list_extend PySem.F.type_list_extend (mt_mutD g.hu .extend) hx (base_of rfl _ _ _) hl) fun σ H Q => key
      · exact PE.weak (pe_bm0 PySem.F.plainAttrs_list PySem.F.slot_list_pop PySem.F.type_list_pop (mt_mutD g.hu .pop) hx (base_of rfl _ _ _) hl) fun σ H Q => key
      · exact PE.weak (pe_bm0 PySem.F.plainAttrs_list PySem.F.slot_list_pop PySem.F.type_list_pop (mt_mutD g.hu .popAt) hx (base_of rfl _ _ _) hl) fun σ H Q => key
      · exact PE.weak (pe_bm0 PySem.F.plainAttrs_list PySem.F.slot_list_remove PySem.F.type_list_remove (mt_mutD g.hu .remove) hx (base_of rfl _ _ _) hl) fun σ H Q => key
  | cons y ys =>
    have hst' := hst
    rw [List.all_cons, Bool.and_eq_true] at hst
    have few : ((backTo cpos (starEach (y :: ys) X.env)).all (fun x => !x.1) && (backToKw cpos (keywordEach [] X.env)).all (fun x => x.1.isSome)
      && decide ((y :: ys).length + ([] : List Keyword).length + (if ([] : List Keyword).isEmpty then 0 else 1) < 30)) = true := by
      rw [stars_all hst']
      show (true && true && decide ((y :: ys).length + 0 + 0 < 30)) = true
      rw [decide_eq_true (by omega)] <;> rfl
    cases m
    · exact PE.weak (pe_bm PySem.F.plainAttrs_list PySem.F.slot_list_append PySem.F.type_list_append (mt_mutD g.hu .append) hx hs (base_of rfl _ _ _) few hl (star_of hst.1 _ _) (stars_of hst.2)) fun σ H Q => mut_reads
    · exact PE.weak (pe_bm PySem.F.plainAttrs_list PySem.F.slot_list_extend PySem.F.type_list_extend (mt_mutD g.hu .extend) hx hs (base_of rfl _ _ _) few hl (star_of hst.1 _ _) (stars_of hst.2)) fun σ H Q => mut_reads
    · exact PE.weak (pe_bm PySem.F.plainAttrs_list PySem.F.slot_list_pop PySem.F.type_list_pop (mt_mutD g.hu .pop) hx hs (base_of rfl _ _ _) few hl (star_of hst.1 _ _) (stars_of hst.2)) fun σ H Q => mut_reads
    · exact PE.weak (pe_bm PySem.F.plainAttrs_list PySem.F.slot_list_pop PySem.F.type_list_pop (mt_mutD g.hu .popAt) hx hs (base_of rfl _ _ _) few hl (star_of hst.1 _ _) (stars_of hst.2)) fun σ H Q => mut_reads
    · exact PE.weak (pe_bm PySem.F.plainAttrs_list PySem.F.slot_list_remove PySem.F.type_list_remove (mt_mutD g.hu .remove) hx hs (base_of rfl _ _ _) few hl (star_of hst.1 _ _) (stars_of hst.2)) fun σ H Q => mut_reads
/-! ### calls -/
theorem set_same {σ : L2.St} {i : Nat} {v : V} (h : σ[i]? = some (some v)) : σ.set i (some v) = σ := by
  apply List.ext_getElem?
  intro j
  by_cases c : i = j
  · subst c
    rw [h, List.getElem?_set_self (List.getElem?_eq_some_iff.mp h).1]
  · rw [List.getElem?_set_ne c]
theorem resvs_noslot {e : En} {i : Nat} {z : Option D} : ∀ {os : List Opd}, noSlot os i = true → resvs (e.set i z) os = resvs e os
  | [], _ => rfl
  | o :: os, h => by
    unfold noSlot at h
    rw [List.all_cons, Bool.and_eq_true] at h
    have ih := resvs_noslot (e := e) (z := z) (os := os) h.2
    have e1 : resv (e.set i z) o = resv e o := by
      cases o with
      | tmp d => rfl
      | slot j =>
        have h1 : (j != i) = true := h.1
        exact getE_set_ne e z (fun q => by subst q; simp at h1)
    unfold resvs
    rw [e1, ih]
theorem pass_ok {K : PySem.W.Frag} {H : Hp} {σ : L2.St} {rs0 : List D} : ∀ {vs : List V} {os : List Opd} {Fs : List Addr}, ORs K H σ vs os Fs → ∀ {e e2 : En} {F : List Addr} {ds rs : List D}, EnvRep K H σ e F → (Fs ++ F).Nodup → resvs e os = some ds → back os ds rs e = some e2 →
    ∃ Gs R, Reps K H vs ds Gs ∧ (Gs ++ R).Nodup ∧ (∀ a, a ∈ Gs ++ R → a ∈ Fs ++ F) ∧ MutF H R ∧
      ∀ H' Fr, Reps K H' vs rs Fr → Keeps H H' → (∀ a ∈ R, H' a = H a) → (Fr ++ R).Nodup → ∃ F', EnvRep K H' σ e2 F' ∧ F'.Nodup ∧ ∀ a, a ∈ F' → a ∈ Fr ++ R := by
  intro vs os Fs h
  induction h with
  | nil =>
    intro e e2 F ds rs he n hr hb
    cases hr
    unfold back at hb
    cases rs with
    | cons _ _ => cases hb
    | nil =>
      cases hb
      exact ⟨[], F, .nil, n, fun a z => z, he.mut, fun H' Fr _ kp sm nf => ⟨F, he.mono kp sm, nd_right nf, fun a z => List.mem_append_right _ z⟩⟩
  | @cons v vs o os F0 G0 r _ ih =>
    intro e e2 F ds rs he n hr hb
    unfold resvs at hr
    obtain ⟨d, hr1, hr2⟩ := bind_some hr
    obtain ⟨ds', hr3, hr4⟩ := bind_some hr2
    cases hr4
    have nG : (G0 ++ F).Nodup := by rw [List.append_assoc] at n; exact nd_right n
    -- the operand leaves the names as they are
    have plain : ∀ {Fd : List Addr}, Rep K H v d Fd → (∀ a ∈ Fd, a ∈ F0) → Fd.Nodup → (∃ r0 rs', rs = r0 :: rs' ∧ back os ds' rs' e = some e2) → ∃ Gs R, Reps K H (v :: vs) (d :: ds') Gs ∧ (Gs ++ R).Nodup ∧ (∀ a, a ∈ Gs ++ R → a ∈ (F0 ++ G0) ++ F) ∧ MutF H R ∧
      ∀ H' Fr, Reps K H' (v :: vs) rs Fr → Keeps H H' → (∀ a ∈ R, H' a = H a) → (Fr ++ R).Nodup → ∃ F', EnvRep K H' σ e2 F' ∧ F'.Nodup ∧ ∀ a, a ∈ F' → a ∈ Fr ++ R := by
      intro Fd rd sub nd ⟨r0, rs', er, hb'⟩
      subst er
      obtain ⟨Gs, R, g1, g2, g3, g4, g5⟩ := ih he nG hr3 hb'
      have off : ∀ a ∈ Fd, a ∉ Gs ++ R := fun a z y => by
        have n2 := n
        rw [List.append_assoc] at n2
        exact nd_off n2 a (sub a z) (g3 a y)
      refine ⟨Fd ++ Gs, R, .cons rd g1, ?_, fun a z => ?_, g4, fun H' Fr q1 q2 q3 q4 => ?_⟩
      · rw [List.append_assoc]
        exact nd_mk nd g2 off
      · rw [List.append_assoc] at z ⊢
        rcases List.mem_append.mp z with z | z
        · exact List.mem_append_left _ (sub a z)
        · exact List.mem_append_right _ (g3 a z)
      · cases q1 with
        | @cons _ _ _ _ Fv Ft p1 p2 =>
          rw [List.append_assoc] at q4
          obtain ⟨F', k1, k2, k3⟩ := g5 H' Ft p2 q2 q3 (nd_right q4)
          exact ⟨F', k1, k2, fun a z => by rw [List.append_assoc]; exact List.mem_append_right _ (k3 a z)⟩
    unfold back at hb
    cases rs with
    | nil => cases hb
    | cons r0 rs' =>
      cases o with
      | tmp d' =>
        cases hr1
        exact plain (show Rep K H v d F0 from r) (fun a z => z) (by rw [List.append_assoc] at n; exact nd_left n) ⟨r0, rs', rfl, hb⟩
      | slot i =>
        obtain ⟨hi, ef⟩ := (show σ[i]? = some (some v) ∧ F0 = [] from r)
        subst ef
        have hr1 : getE e i = some d := hr1
        cases d with
        | imm p =>
          obtain ⟨v', Fi, w1, w2, _⟩ := he.get hr1
          rw [hi] at w1
          cases w1
          obtain ⟨w3, rfl⟩ := w2.imm_of
          exact plain (Rep.imm w3) (fun a z => nomatch z) List.nodup_nil ⟨r0, rs', rfl, hb⟩
        | lst xs =>
          have hb : (if noSlot os i then (back os ds' rs' (e.set i none)).bind fun e' => some (e'.set i (some r0)) else none) = some e2 := hb
          split at hb
          · rename_i ns
            obtain ⟨e', hb1, hb2⟩ := bind_some hb
            cases hb2
            obtain ⟨v', Fi, F1, w1, w2, w3, w4, w5⟩ := he.out hr1
            rw [hi] at w1
            cases w1
            have n5 := w5 (nd_right nG)
            have nG1 : (G0 ++ F1).Nodup := nd_mk (nd_left nG) (nd_right n5) fun a z y => nd_off nG a z (w4 a (List.mem_append_right _ y))
            obtain ⟨Gs, R, g1, g2, g3, g4, g5⟩ := ih w3 nG1 (by rw [resvs_noslot ns]; exact hr3) hb1
            have off : ∀ a ∈ Fi, a ∉ Gs ++ R := fun a z y => by
              rcases List.mem_append.mp (g3 a y) with y | y
              · exact nd_off nG a y (w4 a (List.mem_append_left _ z))
              · exact nd_off n5 a z y
            refine ⟨Fi ++ Gs, R, .cons w2 g1, ?_, fun a z => ?_, g4, fun H' Fr q1 q2 q3 q4 => ?_⟩
            · rw [List.append_assoc]
              exact nd_mk (nd_left n5) g2 off
            · rw [List.append_assoc] at z
              show a ∈ G0 ++ F
              rcases List.mem_append.mp z with z | z
              · exact List.mem_append_right _ (w4 a (List.mem_append_left _ z))
              · rcases List.mem_append.mp (g3 a z) with z | z
                · exact List.mem_append_left _ z
                · exact List.mem_append_right _ (w4 a (List.mem_append_right _ z))
            · cases q1 with
              | @cons _ _ _ _ Fv Ft p1 p2 =>
                rw [List.append_assoc] at q4
                obtain ⟨F', k1, k2, k3⟩ := g5 H' Ft p2 q2 q3 (nd_right q4)
                obtain ⟨F2, m1, m2, m3⟩ := k1.setD p1 i
                rw [set_same hi] at m1
                refine ⟨F2, m1, m3 (nd_mk (nd_left q4) k2 fun a z y => nd_off q4 a z (k3 a y)), fun a z => ?_⟩
                rw [List.append_assoc]
                rcases m2 a z with z | z
                · exact List.mem_append_left _ z
                · exact List.mem_append_right _ (k3 a z)
          · cases hb
        | dic _ xs =>
          have hb : (if noSlot os i then (back os ds' rs' (e.set i none)).bind fun e' => some (e'.set i (some r0)) else none) = some e2 := hb
          split at hb
          · rename_i ns
            obtain ⟨e', hb1, hb2⟩ := bind_some hb
            cases hb2
            obtain ⟨v', Fi, F1, w1, w2, w3, w4, w5⟩ := he.out hr1
            rw [hi] at w1
            cases w1
            have n5 := w5 (nd_right nG)
            have nG1 : (G0 ++ F1).Nodup := nd_mk (nd_left nG) (nd_right n5) fun a z y => nd_off nG a z (w4 a (List.mem_append_right _ y))
            obtain ⟨Gs, R, g1, g2, g3, g4, g5⟩ := ih w3 nG1 (by rw [resvs_noslot ns]; exact hr3) hb1
            have off : ∀ a ∈ Fi, a ∉ Gs ++ R := fun a z y => by
              rcases List.mem_append.mp (g3 a y) with y | y
              · exact nd_off nG a y (w4 a (List.mem_append_left _ z))
              · exact nd_off n5 a z y
            refine ⟨Fi ++ Gs, R, .cons w2 g1, ?_, fun a z => ?_, g4, fun H' Fr q1 q2 q3 q4 => ?_⟩
            · rw [List.append_assoc]
              exact nd_mk (nd_left n5) g2 off
            · rw [List.append_assoc] at z
              show a ∈ G0 ++ F
              rcases List.mem_append.mp z with z | z
              · exact List.mem_append_right _ (w4 a (List.mem_append_left _ z))
              · rcases List.mem_append.mp (g3 a z) with z | z
                · exact List.mem_append_left _ z
                · exact List.mem_append_right _ (w4 a (List.mem_append_right _ z))
            · cases q1 with
              | @cons _ _ _ _ Fv Ft p1 p2 =>
                rw [List.append_assoc] at q4
                obtain ⟨F', k1, k2, k3⟩ := g5 H' Ft p2 q2 q3 (nd_right q4)
                obtain ⟨F2, m1, m2, m3⟩ := k1.setD p1 i
                rw [set_same hi] at m1
                refine ⟨F2, m1, m3 (nd_mk (nd_left q4) k2 fun a z y => nd_off q4 a z (k3 a y)), fun a z => ?_⟩
                rw [List.append_assoc]
                rcases m2 a z with z | z
                · exact List.mem_append_left _ z
                · exact List.mem_append_right _ (k3 a z)
          · cases hb
theorem evo_call {f : Nat} {es : List E} {e e2 : En} {r : Opd} (h : evo Φ T.G (.call f es) e = some (r, e2)) : ∃ os e1 ds d rs, evos Φ T.G es e = some (os, e1) ∧ resvs e1 os = some ds ∧ Φ f ds = some (d, rs) ∧ back os ds rs e1 = some e2 ∧ r = .tmp d := by
  simp only [evo] at h
  obtain ⟨⟨os, e1⟩, h1, h⟩ := bind_some h
  obtain ⟨ds, h2, h⟩ := bind_some h
  obtain ⟨⟨d, rs⟩, h3, h⟩ := bind_some h
  obtain ⟨e3, h4, h⟩ := bind_some h
  cases h
  exact ⟨os, e1, ds, d, rs, h1, h2, h3, h4, rfl⟩
theorem call_reads {f : Nat} {es : List E} {σ : L2.St} {H : Hp} {Q : VK} (E0 : XK) (h : tO X.K (evo Φ T.G (.call f es)) σ H Q) : tCall (spD X.K (Φ f)) [] E0 (tOs X.K (evos Φ T.G es)) σ H Q := by
  obtain ⟨e, F, o', e', he, n, hf, hQ⟩ := h
  obtain ⟨os, e1, ds, d, rs, h1, h2, h3, h4, rfl⟩ := evo_call hf
  refine ⟨e, F, os, e1, he, n, h1, fun vs H2 Fs F2 rp he2 n2 s2 => ?_⟩
  obtain ⟨Gs, R, g1, g2, g3, g4, g5⟩ := pass_ok (rs0 := []) rp he2 n2 h2 h4
  show spD X.K (Φ f) (vs ++ []) H2 Q E0
  rw [List.append_nil]
  refine ⟨ds, Gs, d, rs, g1, nd_left g2, h3, fun v H' Fd Fr r1 r2 n3 s3 => ?_⟩
  have kp := s3.keeps g1.mut
  have nR : ∀ a ∈ R, a ∉ Gs := fun a z y => nd_off g2 a y z
  have ap := s3.apart g4 nR
  have nFr : (Fr ++ R).Nodup := nd_mk (nd_right n3) (nd_right g2) fun a z y => ap a y (List.mem_append_right _ z)
  obtain ⟨F', k1, k2, k3⟩ := g5 H' Fr r2 kp (s3.off g4 nR) nFr
  refine hQ v H' Fd F' r1 k1 (nd_mk (nd_left n3) k2 fun a z y => ?_) ?_
  · rcases List.mem_append.mp (k3 a y) with y | y
    · exact nd_off n3 a z y
    · exact ap a y (List.mem_append_left _ z)
  · refine s2.trans ((s3.frame R).less g3 fun a z => ?_)
    rw [List.append_assoc]
    rcases List.mem_append.mp z with z | z
    · exact List.mem_append_left _ z
    · exact List.mem_append_right _ (k3 a z)
theorem snd_call {f n : Nat} {es : List E} {x : Str} {xs : List Expr} {p pos : Pos} (g : Good T Φ k sc X) (hg : glB sc x = true) (hf : T.fns[f]? = some (x, n)) (hst : xs.all notStar = true) (hs : PA X xs (tOs X.K (evos Φ T.G es))) (hl : es.length = xs.length) :
    PE X (.Call (.Name x p) xs [] pos) (tO X.K (evo Φ T.G (.call f es))) := by
  obtain ⟨g1, g2, g3⟩ := gl_of hg
  obtain ⟨fa, fd, ps, q1, q2, q3, q4, q5⟩ := g.fns f x n hf
  cases xs with
  | nil =>
    cases es with
    | cons _ _ => cases hl
    | nil =>
      refine PE.weak (pe_call0 (E := fun _ _ _ => False) q5 g.room (g.gl g1) q1 q2 q3 .nil (fun _ _ _ _ _ _ _ h => h.elim) g2) fun σ H Q h => ?_
      obtain ⟨e, F, o, e', he, n, hf, hQ⟩ := call_reads (fun _ _ _ => False) h
      simp only [evos, Option.some.injEq, Prod.mk.injEq] at hf
      obtain ⟨rfl, rfl⟩ := hf
      exact hQ [] H [] F .nil he n (Stp.refl H F)
  | cons y ys =>
    rw [List.all_cons, Bool.and_eq_true] at hst
    exact PE.weak (pe_call (E := fun _ _ _ => False) q5 g.room (g.gl g1) q1 q2 q3 .nil (fun _ _ _ _ _ _ _ h => h.elim) hs g2 (star_of hst.1 _ _) (stars_of hst.2)) fun σ H Q h => call_reads _ h
/-! ### a list that becomes data -/
theorem evo_frz {a : E} {e e2 : En} {r : Opd} (h : evo Φ T.G (.frz a) e = some (r, e2)) : ∃ x e1 p, evo Φ T.G a e = some (x, e1) ∧ frzSem x e1 = some (p, e2) ∧ r = .tmp (.imm p) := by
  simp only [evo] at h
  obtain ⟨⟨x, e1⟩, h1, h⟩ := bind_some h
  obtain ⟨⟨p, e3⟩, h2, h⟩ := bind_some h
  cases h
  exact ⟨x, e1, p, h1, h2, rfl⟩
theorem lock_stp {H : Hp} {F G : List Addr} {a : Addr} {o : HO} (ha : a ∈ F) (h : ∀ b ∈ G, b ∈ F) : Stp H F (upd H a o) G :=
  ⟨fun b o e z => by rw [upd_ne (fun y : b = a => z (by rw [y]; exact ha))]; exact e, fun b z => .inl (h b z)⟩
theorem snd_frz {a : E} {x : Expr} (ha : PE X x (tO X.K (evo Φ T.G a))) : PE X x (tO X.K (evo Φ T.G (.frz a))) := by
  refine ⟨fun pins s σ H Q I h => ?_⟩
  obtain ⟨e, F, o', e', he, n, hf, hQ⟩ := h
  obtain ⟨z, e1, p, h1, h2, rfl⟩ := evo_frz hf
  refine thn (ha.run pins s σ H (fun v H1 => ∃ Fd F1, ORep X.K H1 σ v z Fd ∧ EnvRep X.K H1 σ e1 F1 ∧ (Fd ++ F1).Nodup ∧ Stp H F H1 (Fd ++ F1)) I
    (tO_mk he n h1 fun v H1 Fd F1 ox he1 n1 s1 => ⟨Fd, F1, ox, he1, n1, s1⟩)) fun u s1 ⟨v, H1, I1, rv, Fd, F1, ox, he1, n1, st1⟩ => ?_
  unfold frzSem at h2
  split at h2
  · cases h2
    exact ⟨v, H1, I1, rv, hQ v H1 Fd F1 ox he1 n1 st1⟩
  · cases h2
    obtain ⟨b, vs, rfl, q1, q2, rfl⟩ := (show Rep X.K H1 v (.lst _) Fd from ox).lst_of
    obtain ⟨od, I2⟩ := I1.lock q1 trivial
    have st2 : Stp H1 ([b] ++ F1) (upd H1 b (.frz od (.lst vs))) F1 := lock_stp (List.mem_append_left _ (List.mem_singleton.mpr rfl)) fun c z => List.mem_append_right _ z
    have kp := st2.keeps (F := [b] ++ F1) ((Rep.mut (show Rep X.K H1 (.ref b) (.lst _) [b] from ox)).append he1.mut)
    refine ⟨_, _, I2, rv, hQ _ _ [] F1 (Rep.imm (.lst (.inl ⟨od, upd_same⟩) (q2.keep kp))) (he1.mono kp fun c z => upd_ne fun y => ?_) (nd_right n1) (st1.trans st2)⟩
    subst y
    exact nd_off n1 c (List.mem_singleton.mpr rfl) z
  · obtain ⟨hi, ef⟩ := (show σ[_]? = some (some v) ∧ Fd = [] from ox)
    subst ef
    split at h2
    · rename_i p' hp
      cases h2
      obtain ⟨v', Fi, w1, w2, _⟩ := he1.get hp
      rw [hi] at w1
      cases w1
      obtain ⟨w3, rfl⟩ := w2.imm_of
      exact ⟨v, H1, I1, rv, hQ v H1 [] F1 (Rep.imm w3) he1 n1 st1⟩
    · rename_i ps hp
      cases h2
      obtain ⟨v', Fi, F', w1, w2, w3, w4, w5⟩ := he1.out hp
      rw [hi] at w1
      cases w1
      obtain ⟨b, vs, rfl, q1, q2, rfl⟩ := w2.lst_of
      obtain ⟨od, I2⟩ := I1.lock q1 trivial
      have n5 := w5 n1
      have bF : b ∈ F1 := w4 b (List.mem_append_left _ (List.mem_singleton.mpr rfl))
      have st2 : Stp H1 F1 (upd H1 b (.frz od (.lst vs))) F' := lock_stp bF fun c z => w4 c (List.mem_append_right _ z)
      have kp := st2.keeps he1.mut
      have he2 : EnvRep X.K (upd H1 b (.frz od (.lst vs))) σ (e1.set _ none) F' := w3.mono kp fun c z => upd_ne fun y => by
        subst y
        exact nd_off n5 c (List.mem_singleton.mpr rfl) z
      have rp : Rep X.K (upd H1 b (.frz od (.lst vs))) (.ref b) (.imm (.lst ps)) [] := Rep.imm (.lst (.inl ⟨od, upd_same⟩) (q2.keep kp))
      obtain ⟨F2, k1, k2, k3⟩ := he2.into hi rp
      have nd2 : F2.Nodup := k3 (nd_right n5)
      have sub : ∀ c, c ∈ F2 → c ∈ F' := fun c z => (k2 c).mp z
      exact ⟨_, _, I2, rv, hQ _ _ [] F2 rp k1 nd2 (st1.trans (st2.less (fun c z => z) sub))⟩
    · cases h2
  · cases h2
end
end Sw
set_option maxHeartbeats 1000000
/-! Sw, part 14c: enumerate and zip of lists, tuples, texts. -/
namespace Sw
open PySem PySem.Spec PyProof.Rows L2
/-- what is walked -/
inductive SK where
  | l (a : Addr) | t (a : Addr) | s (x : Str)
def SK.val : SK → V
  | .l a => .ref a
  | .t a => .ref a
  | .s x => .str x
def chV (x : Str) : List V := x.cps.toList.map fun c => V.str ⟨#[c]⟩
def SK.sq (K : PySem.W.Frag) (H : Hp) : SK → List V → Prop
  | .l a, xs => SqL K H a xs
  | .t a, xs => SqT K H a xs
  | .s x, xs => xs = chV x
def SK.fp : SK → List Addr
  | .l a => [a]
  | .t a => [a]
  | .s _ => []
def SK.st (h : Heap) (it : Addr) (i : Nat) : SK → Prop
  | .l a => h.IsListIter it a i
  | .t a => h.IsTupleIter it a i
  | .s x => ∃ t, h.IsStrIter it (strIterType x) x t i
theorem SK.st_at {k : SK} {h h' : Heap} {it : Addr} {i : Nat} (s : k.st h it i) (q : ∀ o, h.get? it = some o → h'.get? it = some o) : k.st h' it i := by
  cases k with
  | l a => exact Heap.IsListIter.at s q
  | t a => exact Heap.IsTupleIter.at s q
  | s x =>
    obtain ⟨t, o, ho, r⟩ := s
    exact ⟨t, o, q o ho, r⟩
theorem SK.st_obj {k : SK} {h : Heap} {it : Addr} {i : Nat} (s : k.st h it i) : ∃ o, h.get? it = some o ∧ ∀ v, o.data ≠ .cell v := by
  cases k with
  | l a => obtain ⟨o, ho, _, d⟩ := s; exact ⟨o, ho, fun v q => by rw [d] at q; cases q⟩
  | t a => obtain ⟨o, ho, _, d⟩ := s; exact ⟨o, ho, fun v q => by rw [d] at q; cases q⟩
  | s x => obtain ⟨t, o, ho, _, d⟩ := s; exact ⟨o, ho, fun v q => by rw [d] at q; cases q⟩
section
variable {X : Cx} {pins : List (Addr × Obj)} {σ : L2.St} {H : Hp} {s : Shared}
theorem SK.inj {k : SK} {xs ys : List V} (I : Inv X pins σ H s) (h : k.sq X.K H xs) (h' : k.sq X.K H ys) : xs = ys := by
  cases k with
  | l a => exact I.list_inj h h'
  | t a => exact I.tuple_inj h h'
  | s x => exact Eq.trans h (Eq.symm h')
theorem SK.dr (I : Inv X pins σ H s) (hc : X.calm = true) {k : SK} {xs : List V} {it : Addr} {i : Nat} (hsq : k.sq X.K H xs) (hat : k.st s.heap it i) (hf : it ∉ k.fp) :
    ∃ (n : Nat) (P : Nat → Value → Prop) (St : Nat → Heap → Prop), Draws X.prog X.w X.A.in1 it (it :: k.fp) n P St ∧ n = xs.length ∧ St i s.heap ∧ (∀ j v, P j v → ∃ x, xs[j]? = some x ∧ RelV x v) ∧ ∀ j h', St j h' → k.st h' it j := by
  have hh : X.A.in1.handled = none := I.ok.hd hc
  cases k with
  | l a =>
    obtain ⟨its, rv, p, hz⟩ := I.list hsq
    have hl := rv.length
    exact ⟨_, _, _, Draws.list hh it a (fun e => hf (by simp [SK.fp, e])) its.toArray, by simp [hl], ⟨hat, p.isList⟩, fun j v q => vals_at rv (by simpa using q), fun j h' q => q.1⟩
  | t a =>
    obtain ⟨its, rv, p, hz⟩ := I.tuple hsq
    have hl := rv.length
    exact ⟨_, _, _, Draws.tuple hh it a (fun e => hf (by simp [SK.fp, e])) its.toArray, by simp [hl], ⟨hat, p⟩, fun j v q => vals_at rv (by simpa using q), fun j h' q => q.1⟩
  | s x =>
    obtain ⟨t, hat⟩ := hat
    have hsq : xs = chV x := hsq
    refine ⟨_, _, _, Draws.text hh it x t, by rw [hsq]; simp [chV], hat, fun j v q => ?_, fun j h' q => ⟨t, q⟩⟩
    obtain ⟨c, u, h1, rfl⟩ := q
    refine ⟨.str ⟨#[c]⟩, ?_, u, rfl⟩
    rw [hsq]
    unfold chV
    rw [List.getElem?_map, Array.getElem?_toList, h1] <;> rfl
/-- how it begins -/
theorem SK.beg (I : Inv X pins σ H s) {k : SK} {xs : List V} {v : Value} (hsq : k.sq X.K H xs) (hv : RelV k.val v) : ∃ (o : Obj) (Hq : Heap → Prop), Begins v o Hq ∧ Hq s.heap ∧ (∀ a ∈ k.fp, a < s.heap.objs.size) ∧ ∀ h' it, h'.get? it = some o → k.st h' it 0 := by
  cases k with
  | l a =>
    have hv : v = .ref a := hv
    subst hv
    obtain ⟨its, rv, p, hz⟩ := I.list hsq
    refine ⟨_, _, begins_list a its.toArray, p.isList, fun b hb => ?_, fun h' it q => ⟨_, q, rfl, rfl⟩⟩
    have e : b = a := by simpa [SK.fp] using hb
    rw [e]
    exact p.lt
  | t a =>
    have hv : v = .ref a := hv
    subst hv
    obtain ⟨its, rv, p, hz⟩ := I.tuple hsq
    refine ⟨_, _, begins_tuple a its.toArray, p, fun b hb => ?_, fun h' it q => ⟨_, q, rfl, rfl⟩⟩
    have e : b = a := by simpa [SK.fp] using hb
    rw [e]
    exact p.lt
  | s x =>
    obtain ⟨t, rfl⟩ := hv
    refine ⟨_, _, begins_text x t, trivial, fun b hb => ?_, fun h' it q => ⟨t, _, q, rfl, rfl⟩⟩
    have hb : b ∈ ([] : List Addr) := hb
    cases hb
end
/-! ### enumerate -/
theorem new_enum_g {v : Value} {o : Obj} {Hq : Heap → Prop} (B : Begins v o Hq) :
    Meets (Builtin.«enumerate.__new__» ⟨[.type "enumerate", v], []⟩) (fun _ R s => Hq s.heap ∧
      R (.ok (.ret (.ref (s.heap.push o).objs.size))) { s with heap := (s.heap.push o).push { cls := .type "enumerate", data := .fields #[.none, .bool false, .ref s.heap.objs.size, rawInt 0, .none, .none] } }) :=
  .of_wp fun prog w A R s h => by
    obtain ⟨hp, g, d, tk, os⟩ := s
    obtain ⟨h1, h⟩ := h
    have sub0 := sub_enumerate
    have q1 : ∀ {A' : Around} {E : Value → Shared → Prop} {Q : Value → Shared → Prop}, Q (.ref hp.objs.size) ⟨hp.push o, g, d, tk, os⟩ → wpAny (model prog w) A' (pyIter v) Q E ⟨hp, g, d, tk, os⟩ :=
      fun q => B.iter prog w _ _ ⟨hp, g, d, tk, os⟩ _ h1 q
    wp_walk using q1
    refine wpAny_stack_any fun st => wpAny_pure ?_
    split
    · rename_i c _ _ _ _ _
      cases (c == Value.type "enumerate")
      · wp_walk using q1
        exact ⟨_, rfl, h⟩
      · wp_walk using q1
        exact ⟨_, rfl, h⟩
    · wp_walk using q1
      exact ⟨_, rfl, h⟩
section
variable {prog : Program} {w : World} {A : Around} {E : Value → Shared → Prop} {s : Shared}
theorem call_enum_g {v : Value} {o : Obj} {Hq : Heap → Prop} {Q : Value → Shared → Prop} (B : Begins v o Hq) (h1 : Hq s.heap)
    (h : ∀ h', IsEnum h' (s.heap.objs.size + 1) s.heap.objs.size 0 .none → h'.get? s.heap.objs.size = some o → h'.objs.size = s.heap.objs.size + 2 →
      (∀ b o, s.heap.get? b = some o → h'.get? b = some o) → Q (.ref (s.heap.objs.size + 1)) { s with heap := h' }) :
    wpAny (model prog w) A (call (.type "enumerate") [v]) Q E s := by
  refine callType_new F.called_enumerate (by decide) (F.typeCall_enumerate_1 _) (F.newCall_enumerate_1 _) (fun obj => F.args_object_init_2 obj _) F.entry_enumerate_new
    (new_enum_g B) ⟨h1, ?_⟩
  have hz : (s.heap.push o).objs.size = s.heap.objs.size + 1 := Heap.size_push ..
  show _ ∧ _
  rw [hz]
  have he : IsEnum ((s.heap.push o).push { cls := .type "enumerate", data := .fields #[.none, .bool false, .ref s.heap.objs.size, rawInt 0, .none, .none] }) (s.heap.objs.size + 1) s.heap.objs.size 0 .none := by
    have := Heap.get?_push_size (s.heap.push o) (o := { cls := .type "enumerate", data := .fields #[.none, .bool false, .ref s.heap.objs.size, rawInt 0, .none, .none] }) rfl
    rw [hz] at this; exact this
  refine ⟨⟨_, he, rfl⟩, h _ he (Heap.get?_push_of_some _ (Heap.get?_push_size _ B.free)) (by rw [Heap.size_push, hz]) fun b o x => Heap.get?_push_of_some _ (Heap.get?_push_of_some _ x)⟩
end
/-- each item in a new pair -/
def IteG (K : PySem.W.Frag) (k : SK) : It :=
  ⟨fun i H => ∃ (xs : List V) (x : V), k.sq K H xs ∧ xs[i]? = some x, fun i H v H' => ∃ T x, v = .ref T ∧ H T = none ∧ H' = upd H T (.tup [.int (i : Nat), x]) ∧ ∀ xs, k.sq K H xs → xs[i]? = some x, fun i H => ∃ xs : List V, k.sq K H xs ∧ xs.length = i⟩
theorem turn_enumG {P : Program} {w : World} {K : PySem.W.Frag} {elts : List Expr} {kk : Nat} {tpos : Pos} (k : SK) (e it : Addr) (hne : e ≠ it) (hef : e ∉ k.fp) (hif : it ∉ k.fp) :
    Turn P w K (.Tuple elts kk tpos) (IteG K k) [e, it] e (fun i h => (∃ old, IsEnum h e it ((i : Nat) : Int) old) ∧ k.st h it i) where
  mem := by simp
  obj := fun i h st b hb => by
    obtain ⟨⟨old, he⟩, st⟩ := st
    have e' : b = e ∨ b = it := by simpa using hb
    rcases e' with z | z
    · rw [z]; exact ⟨_, he, fun v q => nomatch q⟩
    · rw [z]; exact SK.st_obj st
  keep := fun i h h' st q => let ⟨⟨old, he⟩, hi⟩ := st; ⟨⟨old, q e (by simp) _ he⟩, SK.st_at hi fun o z => q it (by simp) o z⟩
  item := by
    intro X hP hw hK hc i pins s σ H E I hf st hg
    subst hP hw hK
    obtain ⟨⟨old, he⟩, hit⟩ := st
    obtain ⟨xs, x, hq, hx⟩ := hg
    obtain ⟨n, Pd, St, D, rfl, hst, hP, hS⟩ := SK.dr I hc hq hit hif
    have hel : e < s.heap.objs.size := Heap.lt_size he
    have hil : it < s.heap.objs.size := by obtain ⟨_, q, _⟩ := SK.st_obj hit; exact Heap.lt_size q
    have hlt : i < xs.length := (List.getElem?_eq_some_iff.mp hx).1
    refine wpAny_pyNext_enum_itemD D he hst hlt hne (by simp [hne, hef]) fun u h' tk hy ho hit' hT hsz hk => ?_
    obtain ⟨x', hx', ru⟩ := hP i u hy
    rw [hx] at hx'
    cases hx'
    refine ⟨_, rfl, wpAny_letOwnedTupleGo_enum (s := { s with heap := h', toks := tk + 1 }) ho fun h'' he' sb => ?_⟩
    have hT2 : h''.get? s.heap.objs.size = some { cls := .type "tuple", data := .seq #[.int i tk, u] } := (sb.2 _ (Nat.ne_of_gt hel)).trans hT
    have new : ObjOk X.prog X.w (upd H s.heap.objs.size (.tup [.int (i : Nat), x])) h'' s.heap.objs.size (.tup [.int (i : Nat), x]) :=
      ⟨by show 2 ≤ sizeLine; decide, [.int i tk, u], .cons ⟨_, rfl⟩ (.cons ru .nil), ⟨_, hT2, rfl, _, rfl⟩⟩
    have I1 : Inv X pins σ (upd H s.heap.objs.size (.tup [.int (i : Nat), x])) { s with heap := h'', toks := tk + 1 } :=
      I.turnedNew (ch := [e, it]) (fun b ob hb q => (sb.2 b (fun z => hb (by simp [z]))).trans (hk b ob (fun z => hb (by simp [z])) (fun z => hb (by simp [z])) q)) hf (Nat.le_refl _) new
    refine ⟨.ref s.heap.objs.size, _, I1, rfl, ⟨_, x, rfl, I.hok.fresh (Nat.le_refl _), rfl, fun ys hy => by rw [SK.inj I hy hq]; exact hx⟩, ⟨⟨u, ?_⟩, SK.st_at (hS _ _ hit') fun o q => (sb.2 it (Ne.symm hne)).trans q⟩, fun b hb => ?_⟩
    · have e1 : ((i + 1 : Nat) : Int) = (i : Int) + 1 := by omega
      rw [e1]; exact he'
    · have hb' : b < s.heap.objs.size := by
        have e' : b = e ∨ b = it := by simpa using hb
        rcases e' with z | z
        · rw [z]; exact hel
        · rw [z]; exact hil
      rw [upd_ne (Nat.ne_of_lt hb')]
      exact (hf b hb).1
  done := by
    intro X hP hw hK hc i pins s σ H E I hf st hg
    subst hP hw hK
    obtain ⟨⟨old, he⟩, hit⟩ := st
    obtain ⟨xs, hq, rfl⟩ := hg
    obtain ⟨n, Pd, St, D, rfl, hst, hP, hS⟩ := SK.dr I hc hq hit hif
    obtain ⟨f0, f1, f2, f3, f4, f5⟩ := hf it (by simp)
    refine wpAny_pyNext_enum_endD D he hst fun h' eb => ⟨rfl, I.turned (t' := s.toks) (fun b o hb q => eb b o hb q) f0 f1 f3 f4 f5⟩
  self := fun A i s Q E st h => let ⟨⟨_, he⟩, _⟩ := st; wpAny_pyIter_enum he h
def iEnumG (K : PySem.W.Frag) (ta : TA) : TI := fun σ H R => ta σ H fun vs H1 => ∃ k xs, vs = [SK.val k] ∧ k.sq K H1 xs ∧ R (IteG K k) H1
theorem pi_enumG {X : Cx} {e : Expr} {ta : TA} {p pos tpos : Pos} {elts : List Expr} {kk : Nat} (hg : Gl X "enumerate") (hm : X.mg "enumerate" = none) (ha : PA X [e] ta) (hs : starEach [e] X.env = [(false, eval e X.env)] := by rfl) :
    PI X (.Tuple elts kk tpos) (.Call (.Name "enumerate" p) [e] [] pos) (iEnumG X.K ta) := by
  refine ⟨fun pins s σ H R I h => ?_⟩
  refine Call_ (ld_blt I hg hm boot_enumerate (PyProof.Rows.callWith_type1 (thn (ha.run pos pins s σ H _ I h) fun us s1 ⟨vs, H1, I1, r1, q1⟩ => ?_) hs rfl))
  obtain ⟨k, xs, ex, hq, q⟩ := q1
  subst ex
  have fp : ∀ b ∈ [s1.heap.objs.size + 1, s1.heap.objs.size], FpOk X pins H1 b := fun b hb => by
    have e' : b = s1.heap.objs.size + 1 ∨ b = s1.heap.objs.size := by simpa using hb
    have hle : s1.heap.objs.size ≤ b := by
      rcases e' with z | z
      · rw [z]; exact Nat.le_add_right _ _
      · rw [z]; exact Nat.le_refl _
    exact I1.fpOk hle (I1.hok.fresh hle)
  cases r1 with
  | cons r rr =>
    cases rr
    obtain ⟨o, Hq, B, hH, hfp, hst⟩ := SK.beg I1 hq r
    refine call_enum_g B hH fun h' he hit hsz hk => wpAny_pyIter_enum he ?_
    have I2 : Inv X pins σ H1 { s1 with heap := h' } := I1.kept (t' := s1.toks) hk
    refine ⟨s1.heap.objs.size + 1, [s1.heap.objs.size + 1, s1.heap.objs.size], _, _, H1, rfl, I2, turn_enumG k (s1.heap.objs.size + 1) s1.heap.objs.size (Nat.succ_ne_self _) (fun z => ?_) (fun z => ?_), ⟨⟨.none, he⟩, hst _ _ hit⟩, fp, q⟩
    · have := hfp _ z
      exact absurd this (Nat.not_lt.mpr (Nat.le_add_right _ _))
    · exact absurd (hfp _ z) (Nat.lt_irrefl _)
/-! ### zip of two -/
def ItzG (K : PySem.W.Frag) (k1 k2 : SK) : It :=
  ⟨fun i H => ∃ (xs ys : List V) (x y : V), k1.sq K H xs ∧ k2.sq K H ys ∧ xs[i]? = some x ∧ ys[i]? = some y,
    fun i H v H' => ∃ T x y, v = .ref T ∧ H T = none ∧ H' = upd H T (.tup [x, y]) ∧ (∀ xs, k1.sq K H xs → xs[i]? = some x) ∧ ∀ ys, k2.sq K H ys → ys[i]? = some y,
    fun i H => ∃ xs ys : List V, k1.sq K H xs ∧ k2.sq K H ys ∧ i ≤ xs.length ∧ i ≤ ys.length ∧ (i = xs.length ∨ i = ys.length)⟩
theorem turn_zipG {P : Program} {w : World} {K : PySem.W.Frag} {elts : List Expr} {kk : Nat} {tpos : Pos} {k1 k2 : SK} {z TI TO i1 i2 : Addr} (S : ZipSep2 z TI TO i1 i2 (i1 :: k1.fp) (i2 :: k2.fp)) (hf1 : i1 ∉ k1.fp) (hf2 : i2 ∉ k2.fp) :
    Turn P w K (.Tuple elts kk tpos) (ItzG K k1 k2) [z, TI, TO, i1, i2] z (fun i h => IsZip h z TI TO .none ∧ IsTupOf2 h TI (.ref i1) (.ref i2) ∧ (∃ x y, IsTupOf2 h TO x y) ∧ k1.st h i1 i ∧ k2.st h i2 i) where
  mem := by simp
  obj := fun i h st c hc => by
    obtain ⟨hz, hTI, ⟨x, y, hTO⟩, h1, h2⟩ := st
    have e' : c = z ∨ c = TI ∨ c = TO ∨ c = i1 ∨ c = i2 := by simpa using hc
    rcases e' with q | q | q | q | q
    · rw [q]; exact ⟨_, hz, fun v q => nomatch q⟩
    · rw [q]; exact ⟨_, hTI, fun v q => nomatch q⟩
    · rw [q]; exact ⟨_, hTO, fun v q => nomatch q⟩
    · rw [q]; exact SK.st_obj h1
    · rw [q]; exact SK.st_obj h2
  keep := fun i h h' st k => by
    obtain ⟨hz, hTI, ⟨x, y, hTO⟩, h1, h2⟩ := st
    exact ⟨k z (by simp) _ hz, k TI (by simp) _ hTI, ⟨x, y, k TO (by simp) _ hTO⟩, SK.st_at h1 fun o q => k i1 (by simp) o q, SK.st_at h2 fun o q => k i2 (by simp) o q⟩
  item := by
    intro X hP hw hK hc i pins s σ H E I hf st hg
    subst hP hw hK
    obtain ⟨hz, hTI, ⟨x0, y0, hTO⟩, h1, h2⟩ := st
    obtain ⟨xs, ys, x, y, hqx, hqy, hx, hy⟩ := hg
    obtain ⟨n1, P1, St1, D1, rfl, hst1, hP1, hS1⟩ := SK.dr I hc hqx h1 hf1
    obtain ⟨n2, P2, St2, D2, rfl, hst2, hP2, hS2⟩ := SK.dr I hc hqy h2 hf2
    have hzl : z < s.heap.objs.size := Heap.lt_size hz
    refine wpAny_pyNext_zipD2_item S D1 D2 hz hTI hTO hst1 hst2 (List.getElem?_eq_some_iff.mp hx).1 (List.getElem?_eq_some_iff.mp hy).1 fun u u2 h' tk hu hu2 z' TO' h1' h2' hT hsz hk => ?_
    obtain ⟨x', hx', ru⟩ := hP1 i u hu
    rw [hx] at hx'
    cases hx'
    obtain ⟨y', hy', ru2⟩ := hP2 i u2 hu2
    rw [hy] at hy'
    cases hy'
    refine ⟨_, rfl, wpAny_letOwnedTupleGo_zip (s := { s with heap := h', toks := tk }) z' fun h'' z'' sb => ?_⟩
    have hT2 : h''.get? s.heap.objs.size = some { cls := .type "tuple", data := .seq #[u, u2] } := (sb.2 _ (Nat.ne_of_gt hzl)).trans hT
    have new : ObjOk X.prog X.w (upd H s.heap.objs.size (.tup [x, y])) h'' s.heap.objs.size (.tup [x, y]) :=
      ⟨by show 2 ≤ sizeLine; decide, [u, u2], .cons ru (.cons ru2 .nil), ⟨_, hT2, rfl, _, rfl⟩⟩
    have I1 : Inv X pins σ (upd H s.heap.objs.size (.tup [x, y])) { s with heap := h'', toks := tk } :=
      I.turnedNew (ch := [z, TI, TO, i1, i2]) (fun c o hb q => (sb.2 c (fun q' => hb (by simp [q']))).trans (hk c o (fun q' => hb (by simp [q'])) (fun q' => hb (by simp [q'])) (fun q' => hb (by simp [q'])) (fun q' => hb (by simp [q'])) q)) hf (Nat.le_refl _) new
    refine ⟨.ref s.heap.objs.size, _, I1, rfl, ⟨_, x, y, rfl, I.hok.fresh (Nat.le_refl _), rfl, fun l hl => by rw [SK.inj I hl hqx]; exact hx, fun l hl => by rw [SK.inj I hl hqy]; exact hy⟩, ⟨z'', ?_, ⟨u, u2, ?_⟩, ?_, ?_⟩, fun c hcm => ?_⟩
    · exact (sb.2 _ S.TIz).trans (hk _ _ S.TIz S.TITO S.TIi1 S.TIi2 hTI)
    · exact (sb.2 _ S.TOz).trans TO'
    · exact SK.st_at (hS1 _ _ h1') fun o q => (sb.2 _ (Ne.symm S.zi1)).trans q
    · exact SK.st_at (hS2 _ _ h2') fun o q => (sb.2 _ (Ne.symm S.zi2)).trans q
    · have hlt : c < s.heap.objs.size := by
        have e' : c = z ∨ c = TI ∨ c = TO ∨ c = i1 ∨ c = i2 := by simpa using hcm
        rcases e' with q | q | q | q | q
        · rw [q]; exact hzl
        · rw [q]; exact Heap.lt_size hTI
        · rw [q]; exact Heap.lt_size hTO
        · rw [q]; obtain ⟨_, e1, _⟩ := SK.st_obj h1; exact Heap.lt_size e1
        · rw [q]; obtain ⟨_, e2, _⟩ := SK.st_obj h2; exact Heap.lt_size e2
      rw [upd_ne (Nat.ne_of_lt hlt)]
      exact (hf c hcm).1
  done := by
    intro X hP hw hK hc i pins s σ H E I hf st hg
    subst hP hw hK
    obtain ⟨hz, hTI, ⟨x0, y0, hTO⟩, h1, h2⟩ := st
    obtain ⟨xs, ys, hqx, hqy, l1, l2, hend⟩ := hg
    obtain ⟨n1, P1, St1, D1, rfl, hst1, hP1, hS1⟩ := SK.dr I hc hqx h1 hf1
    obtain ⟨n2, P2, St2, D2, rfl, hst2, hP2, hS2⟩ := SK.dr I hc hqy h2 hf2
    exact wpAny_pyNext_zipD2_end S D1 D2 hz hTI hTO hst1 hst2 l1 l2 hend fun h' tk hk => ⟨rfl, I.turnedL (t' := tk) (ch := [z, TI, TO, i1, i2]) (fun c o hb q =>
      hk c o (fun q' => hb (by simp [q'])) (fun q' => hb (by simp [q'])) (fun q' => hb (by simp [q'])) (fun q' => hb (by simp [q'])) q) hf⟩
  self := fun A i s Q E st h => wpAny_pyIter_zip st.1 h
def iZipG (K : PySem.W.Frag) (ta : TA) : TI := fun σ H R => ta σ H fun vs H1 => ∃ k1 k2 xs ys, vs = [SK.val k1, SK.val k2] ∧ k1.sq K H1 xs ∧ k2.sq K H1 ys ∧ R (ItzG K k1 k2) H1
theorem pi_zipG {X : Cx} {e e2 : Expr} {ta : TA} {p pos tpos : Pos} {elts : List Expr} {kk : Nat} (hg : Gl X "zip") (hm : X.mg "zip" = none) (ha : PA X [e, e2] ta)
    (hs : starEach [e, e2] X.env = (false, eval e X.env) :: starEach [e2] X.env := by rfl) (hpl : (backTo pos (starEach [e2] X.env)).any (·.1) = false := by rfl) :
    PI X (.Tuple elts kk tpos) (.Call (.Name "zip" p) [e, e2] [] pos) (iZipG X.K ta) := by
  refine ⟨fun pins s σ H R I h => ?_⟩
  refine Call_ (ld_blt I hg hm PyProof.Rows.boot_zip (PyProof.Rows.callWith_type1 (thn (ha.run pos pins s σ H _ I h) fun us s1 ⟨vs, H1, I1, r1, q1⟩ => ?_) hs hpl))
  obtain ⟨k1, k2, xs, ys, ex, hqx, hqy, q⟩ := q1
  subst ex
  cases r1 with
  | cons r rr =>
    cases rr with
    | cons r' rr =>
      cases rr
      have fresh5 : ∀ c, c ∈ [s1.heap.objs.size + 4, s1.heap.objs.size + 2, s1.heap.objs.size + 3, s1.heap.objs.size, s1.heap.objs.size + 1] → FpOk X pins H1 c := fun c hcm => by
        have e' : c = s1.heap.objs.size + 4 ∨ c = s1.heap.objs.size + 2 ∨ c = s1.heap.objs.size + 3 ∨ c = s1.heap.objs.size ∨ c = s1.heap.objs.size + 1 := by simpa using hcm
        have hle : s1.heap.objs.size ≤ c := by
          rcases e' with z | z | z | z | z
          · rw [z]; exact Nat.le_add_right _ _
          · rw [z]; exact Nat.le_add_right _ _
          · rw [z]; exact Nat.le_add_right _ _
          · rw [z]; exact Nat.le_refl _
          · rw [z]; exact Nat.le_add_right _ _
        exact I1.fpOk hle (I1.hok.fresh hle)
      obtain ⟨o1, Hq1, B1, hH1, hfp1, hst1⟩ := SK.beg I1 hqx r
      obtain ⟨o2, Hq2, B2, hH2, hfp2, hst2⟩ := SK.beg I1 hqy r'
      refine zip_begins2 B1 B2 hH1 hH2 fun h' hz hTI hTO h1 h2 hsz hk => wpAny_pyIter_zip hz ?_
      have I2 : Inv X pins σ H1 { s1 with heap := h' } := I1.kept (t' := s1.toks) hk
      refine ⟨s1.heap.objs.size + 4, [s1.heap.objs.size + 4, s1.heap.objs.size + 2, s1.heap.objs.size + 3, s1.heap.objs.size, s1.heap.objs.size + 1], _, _, H1, rfl, I2, turn_zipG (zip_sep2 hfp1 hfp2) (fun z => absurd (hfp1 _ z) (Nat.lt_irrefl _)) (fun z => absurd (hfp2 _ z) (Nat.not_lt.mpr (Nat.le_add_right _ _))), ⟨hz, hTI, ⟨_, _, hTO⟩, hst1 _ _ h1, hst2 _ _ h2⟩, fresh5, q⟩
end Sw
set_option maxHeartbeats 1000000
/-! Sw, part 15: what is walked. -/
namespace Sw
open PySem PySem.Spec PyProof.Rows L2
/-- what the turns give -/
def YP (K : PySem.W.Frag) (ps : List P) : Nat → Hp → V → Hp → Prop := fun i H x H' => Same H H' ∧ ∃ p, ps[i]? = some p ∧ PRep K H' x p
def tI (K : PySem.W.Frag) (k : IK) (f : M (List Opd)) : TI := fun σ H R => ∃ e F os e' ds ps, EnvRep K H σ e F ∧ F.Nodup ∧ f e = some (os, e') ∧ resvs e' os = some ds ∧ items k ds = some ps ∧
  ∀ J vs H' Fd F', ORs K H' σ vs os Fd → EnvRep K H' σ e' F' → (Fd ++ F').Nodup → Stp H F H' (Fd ++ F') → Walk J ps.length (fun H => PkAll K H vs ds) (YP K ps) → R J H'
theorem pk_list {K : PySem.W.Frag} {H : Hp} {v : V} {d : D} {ps : List P} (h : listOf d = some ps) {F : List Addr} (r : Rep K H v d F) : ∃ a xs, v = .ref a ∧ SqL K H a xs ∧ PReps K H xs ps := by
  unfold listOf at h
  split at h
  · cases h; obtain ⟨a, xs, rfl, h, q⟩ := r.flst_of; exact ⟨a, xs, rfl, h.sql, q⟩
  · cases h; obtain ⟨a, xs, rfl, h, q, _⟩ := r.lst_of; exact ⟨a, xs, rfl, SqL.of h, q⟩
  · cases h
section
variable {K : PySem.W.Frag} {a b : Addr} {d d2 : D} {ps qs : List P}
theorem pk_list1 (h : listOf d = some ps) {H : Hp} (pk : PkAll K H [.ref a] [d]) : ∃ xs, SqL K H a xs ∧ PReps K H xs ps := by
  obtain ⟨v, F, e, r⟩ := pk.one
  cases e
  obtain ⟨a', xs, e, q1, q2⟩ := pk_list h r
  cases e
  exact ⟨xs, q1, q2⟩
theorem pk_tup1 {H : Hp} (pk : PkAll K H [.ref a] [.imm (.tup ps)]) : ∃ xs, SqT K H a xs ∧ PReps K H xs ps := by
  obtain ⟨v, F, e, r⟩ := pk.one
  cases e
  obtain ⟨a', xs, e, q1, q2⟩ := r.tup_of
  cases e
  exact ⟨xs, q1, q2⟩
theorem walkP_list (h : listOf d = some ps) : Walk (Itl K a) ps.length (fun H => PkAll K H [.ref a] [d]) (YP K ps) := by
  refine ⟨fun i H hi pk => ?_, fun H pk => ?_, fun i H x H' hi pk y => ?_⟩
  · obtain ⟨xs, q1, q2⟩ := pk_list1 h pk
    have hl := q2.length
    exact ⟨xs, xs[i]'(by omega), q1, by simp⟩
  · obtain ⟨xs, q1, q2⟩ := pk_list1 h pk
    exact ⟨xs, q1, by rw [q2.length]; exact Nat.le_refl _⟩
  · obtain ⟨xs, q1, q2⟩ := pk_list1 h pk
    obtain ⟨rfl, y⟩ := y
    obtain ⟨p, h1, h2⟩ := q2.getV (y xs q1)
    exact ⟨fun _ _ e => e, p, h1, h2⟩
theorem walkP_tup : Walk (Itt K a) ps.length (fun H => PkAll K H [.ref a] [.imm (.tup ps)]) (YP K ps) := by
  refine ⟨fun i H hi pk => ?_, fun H pk => ?_, fun i H x H' hi pk y => ?_⟩
  · obtain ⟨xs, q1, q2⟩ := pk_tup1 pk
    have hl := q2.length
    exact ⟨xs, xs[i]'(by omega), q1, by simp⟩
  · obtain ⟨xs, q1, q2⟩ := pk_tup1 pk
    exact ⟨xs, q1, by rw [q2.length]; exact Nat.le_refl _⟩
  · obtain ⟨xs, q1, q2⟩ := pk_tup1 pk
    obtain ⟨rfl, y⟩ := y
    obtain ⟨p, h1, h2⟩ := q2.getV (y xs q1)
    exact ⟨fun _ _ e => e, p, h1, h2⟩
theorem walkP_str {s : List Nat} : Walk (Its (sOf s)) (s.map fun c => P.str [c]).length (fun H => PkAll K H [.str (sOf s)] [.imm (.str s)]) (YP K (s.map fun c => P.str [c])) := by
  refine ⟨fun i H hi pk => ?_, fun H pk => ?_, fun i H x H' hi pk y => ?_⟩
  · rw [List.length_map] at hi
    show i < (sOf s).cps.size
    simpa [sOf] using hi
  · rw [List.length_map]
    show (sOf s).cps.size ≤ _
    simp [sOf]
  · obtain ⟨rfl, c, h1, rfl⟩ := y
    obtain ⟨v, F, e, r⟩ := pk.one
    obtain ⟨_, ok⟩ := r.str_of
    have h1 : s[i]? = some c := by simpa [sOf] using h1
    refine ⟨fun _ _ e => e, .str [c], by rw [List.getElem?_map, h1]; rfl, ?_⟩
    refine .str [c] ?_
    unfold chrOk at ok ⊢
    rw [List.all_cons, List.all_nil, Bool.and_true]
    exact List.all_eq_true.mp ok c (List.mem_of_getElem? h1)
theorem walkP_rng {G : Hp → Prop} {lo : Int} {n : Nat} : Walk (Itr lo n) ((List.range n).map fun k : Nat => P.int (lo + (k : Int))).length G (YP K ((List.range n).map fun k : Nat => P.int (lo + (k : Int)))) := by
  rw [List.length_map, List.length_range]
  refine ⟨fun i H hi _ => hi, fun H _ => Nat.le_refl _, fun i H x H' hi _ y => ?_⟩
  obtain ⟨rfl, rfl⟩ := y
  exact ⟨fun _ _ e => e, .int (lo + i), by rw [List.getElem?_map, List.getElem?_range hi]; rfl, .int _⟩
theorem walkP_rngD {G : Hp → Prop} {lo : Int} {n : Nat} : Walk (Itc lo (-1) n) ((List.range n).map fun k : Nat => P.int (lo - (k : Int))).length G (YP K ((List.range n).map fun k : Nat => P.int (lo - (k : Int)))) := by
  rw [List.length_map, List.length_range]
  refine ⟨fun i H hi _ => hi, fun H _ => Nat.le_refl _, fun i H x H' hi _ y => ?_⟩
  obtain ⟨rfl, rfl⟩ := y
  refine ⟨fun _ _ e => e, .int (lo - i), by rw [List.getElem?_map, List.getElem?_range hi]; rfl, ?_⟩
  rw [show lo + (i : Nat) * (-1 : Int) = lo - i by omega]
  exact .int _
theorem pair_rep {H : Hp} {T : Addr} {x y : V} {p q : P} (hT : H T = none) (h1 : PRep K H x p) (h2 : PRep K H y q) : PRep K (upd H T (.tup [x, y])) (.ref T) (.tup [p, q]) :=
  .tup upd_same (.cons (h1.keep (Keeps.of_same (same_new hT))) (.cons (h2.keep (Keeps.of_same (same_new hT))) .nil))
/-- which kind a value is -/
def KD : SK → D → Prop
  | .l _, d => ∃ ps, listOf d = some ps
  | .t _, d => ∃ ps, d = .imm (.tup ps)
  | .s x, d => ∃ s, x = sOf s ∧ d = .imm (.str s)
theorem chV_reps {H : Hp} : ∀ {s : List Nat}, chrOk s = true → PReps K H (s.map fun c => V.str ⟨#[c]⟩) (s.map fun c => P.str [c])
  | [], _ => .nil
  | c :: s, h => by
    unfold chrOk at h
    rw [List.all_cons, Bool.and_eq_true] at h
    refine .cons (.str [c] ?_) (chV_reps h.2)
    unfold chrOk
    rw [List.all_cons, List.all_nil, Bool.and_true]
    exact h.1
theorem rep_sk {H : Hp} {v : V} {F : List Addr} (r : Rep K H v d F) (h : elems d = some ps) : ∃ k, v = SK.val k ∧ KD k d := by
  cases d with
  | lst qs =>
    obtain ⟨a, xs, rfl, _⟩ := r.lst_of
    exact ⟨.l a, rfl, qs, rfl⟩
  | imm p =>
    cases p with
    | tup qs =>
      obtain ⟨a, xs, rfl, _⟩ := r.tup_of
      exact ⟨.t a, rfl, qs, rfl⟩
    | lst qs =>
      obtain ⟨a, xs, rfl, _⟩ := r.flst_of
      exact ⟨.l a, rfl, qs, rfl⟩
    | str s =>
      obtain ⟨rfl, _⟩ := r.str_of
      exact ⟨.s (sOf s), rfl, s, rfl, rfl⟩
    | _ => cases h
  | dic _ _ => cases h
theorem sk_rep {H : Hp} {k : SK} {F : List Addr} (q : KD k d) (r : Rep K H k.val d F) (h : elems d = some ps) : ∃ xs, k.sq K H xs ∧ PReps K H xs ps := by
  cases k with
  | l a =>
    obtain ⟨qs, hq⟩ := q
    have e : qs = ps := by
      cases d with
      | lst _ => cases hq; cases h; rfl
      | dic _ _ => cases h
      | imm p => cases p <;> first | (cases hq; cases h; rfl) | cases hq
    subst e
    obtain ⟨a', xs, e, q1, q2⟩ := pk_list hq r
    cases e
    exact ⟨xs, q1, q2⟩
  | t a =>
    obtain ⟨qs, rfl⟩ := q
    cases h
    obtain ⟨a', xs, e, q1, q2⟩ := r.tup_of
    cases e
    exact ⟨xs, q1, q2⟩
  | s x =>
    obtain ⟨s, rfl, rfl⟩ := q
    cases h
    obtain ⟨_, c⟩ := r.str_of
    refine ⟨chV (sOf s), rfl, ?_⟩
    unfold chV
    rw [sOf_cps]
    exact chV_reps c
theorem walkP_enum {k : SK} (q : KD k d) (h : elems d = some ps) : Walk (IteG K k) (ps.zipIdx.map fun q => P.tup [.int (q.2 : Int), q.1]).length (fun H => PkAll K H [k.val] [d]) (YP K (ps.zipIdx.map fun q => P.tup [.int (q.2 : Int), q.1])) := by
  have one : ∀ {H : Hp}, PkAll K H [k.val] [d] → ∃ xs, k.sq K H xs ∧ PReps K H xs ps := fun {H} pk => by
    obtain ⟨v, F, e, r⟩ := pk.one
    cases e
    exact sk_rep q r h
  rw [List.length_map, List.length_zipIdx]
  refine ⟨fun i H hi pk => ?_, fun H pk => ?_, fun i H x H' hi pk y => ?_⟩
  · obtain ⟨xs, q1, q2⟩ := one pk
    have hl := q2.length
    exact ⟨xs, xs[i]'(by omega), q1, by simp⟩
  · obtain ⟨xs, q1, q2⟩ := one pk
    exact ⟨xs, q1, q2.length⟩
  · obtain ⟨xs, q1, q2⟩ := one pk
    obtain ⟨T, x, rfl, hT, rfl, y⟩ := y
    obtain ⟨p, h1, h2⟩ := q2.getV (y xs q1)
    exact ⟨same_new hT, .tup [.int (i : Int), p], by rw [List.getElem?_map, List.getElem?_zipIdx, h1]; simp, pair_rep hT (.int _) h2⟩
theorem get_zip {α β : Type} {xs : List α} {ys : List β} {i : Nat} {x : α} {y : β} (h1 : xs[i]? = some x) (h2 : ys[i]? = some y) : (xs.zip ys)[i]? = some (x, y) := by
  rw [List.getElem?_zip_eq_some]
  exact ⟨h1, h2⟩
theorem walkP_zip {k1 k2 : SK} (g1 : KD k1 d) (g2 : KD k2 d2) (h : elems d = some ps) (h' : elems d2 = some qs) : Walk (ItzG K k1 k2) ((ps.zip qs).map fun q => P.tup [q.1, q.2]).length (fun H => PkAll K H [k1.val, k2.val] [d, d2]) (YP K ((ps.zip qs).map fun q => P.tup [q.1, q.2])) := by
  have two : ∀ {H : Hp}, PkAll K H [k1.val, k2.val] [d, d2] → (∃ xs, k1.sq K H xs ∧ PReps K H xs ps) ∧ ∃ ys, k2.sq K H ys ∧ PReps K H ys qs := fun {H} pk => by
    obtain ⟨v, u, F, G, e, r, r'⟩ := pk.two
    cases e
    exact ⟨sk_rep g1 r h, sk_rep g2 r' h'⟩
  rw [List.length_map, List.length_zip]
  refine ⟨fun i H hi pk => ?_, fun H pk => ?_, fun i H x H' hi pk y => ?_⟩
  · obtain ⟨⟨xs, q1, q2⟩, ys, q3, q4⟩ := two pk
    have hl := q2.length
    have hl2 := q4.length
    exact ⟨xs, ys, xs[i]'(by omega), ys[i]'(by omega), q1, q3, by simp, by simp⟩
  · obtain ⟨⟨xs, q1, q2⟩, ys, q3, q4⟩ := two pk
    have hl := q2.length
    have hl2 := q4.length
    exact ⟨xs, ys, q1, q3, by omega, by omega, by omega⟩
  · obtain ⟨⟨xs, q1, q2⟩, ys, q3, q4⟩ := two pk
    obtain ⟨T, x, z, rfl, hT, rfl, y1, y2⟩ := y
    obtain ⟨p, h1, h2⟩ := q2.getV (y1 xs q1)
    obtain ⟨q, h3, h4⟩ := q4.getV (y2 ys q3)
    exact ⟨same_new hT, .tup [p, q], by rw [List.getElem?_map, get_zip h1 h3]; rfl, pair_rep hT h2 h4⟩
end
section
variable {T : Tab} {Φ : CallS} {k : Nat} {sc : Scope} {X : Cx} {tg : Expr}
theorem chkEs_cons {a : E} {as : List E} {xs : List Expr} (h : chkEs T sc (a :: as) xs = true) : ∃ y ys, xs = y :: ys ∧ notStar y = true ∧ chkE T sc a y = true ∧ chkEs T sc as ys = true := by
  cases xs with
  | nil => simp only [chkEs] at h; cases h
  | cons y ys =>
    simp only [chkEs, Bool.and_eq_true] at h
    exact ⟨y, ys, rfl, h.1.1, h.1.2, h.2⟩
theorem chkEs_nil {xs : List Expr} (h : chkEs T sc [] xs = true) : xs = [] := by
  cases xs with
  | nil => rfl
  | cons y ys => simp only [chkEs] at h; cases h
theorem chkEs_star : ∀ {as : List E} {xs : List Expr}, chkEs T sc as xs = true → xs.all notStar = true
  | [], xs, h => by rw [chkEs_nil h]; rfl
  | a :: as, xs, h => by
    obtain ⟨y, ys, rfl, h1, _, h3⟩ := chkEs_cons h
    rw [List.all_cons, h1, chkEs_star h3] <;> rfl
theorem chkEs_len : ∀ {as : List E} {xs : List Expr}, chkEs T sc as xs = true → as.length = xs.length
  | [], xs, h => by rw [chkEs_nil h] <;> rfl
  | a :: as, xs, h => by
    obtain ⟨y, ys, rfl, _, _, h3⟩ := chkEs_cons h
    rw [List.length_cons, List.length_cons, chkEs_len h3]
theorem ORs.one_ref {K : PySem.W.Frag} {H : Hp} {σ : L2.St} {v : V} {x : Opd} {Fs : List Addr} (h : ORep K H σ v x Fs) : ORs K H σ [v] [x] Fs := by
  have := ORs.cons h .nil
  rwa [List.append_nil] at this
theorem elems_cases {d : D} {ps : List P} (h : elems d = some ps) : d = .imm (.tup ps) ∨ listOf d = some ps ∨ ∃ s, d = .imm (.str s) ∧ ps = s.map fun c => .str [c] := by
  unfold elems at h
  split at h
  · cases h; exact .inl rfl
  · cases h; exact .inr (.inl rfl)
  · cases h; exact .inr (.inr ⟨_, rfl, rfl⟩)
  · cases h; exact .inr (.inl rfl)
  · cases h
theorem snd_iseq {a : E} {x : Expr} (ha : PE X x (tO X.K (evo Φ T.G a))) : PI X tg x (tI X.K .seq (evos Φ T.G [a])) := by
  refine ⟨fun pins s σ H R I h => ?_⟩
  obtain ⟨e, F, os, e', ds, ps, he, n, hf, hr, hi, hR⟩ := h
  obtain ⟨y, h1, rfl⟩ := evos_one hf
  simp only [resvs] at hr
  obtain ⟨d, hr1, h2⟩ := bind_some hr
  simp only [Option.bind_some] at h2
  cases h2
  clear hr
  have hi : elems d = some ps := hi
  rcases elems_cases hi with rfl | hl | ⟨s', rfl, rfl⟩
  · refine (pi_tup ha).run pins s σ H R I (tO_mk he n h1 fun v H1 Fd F1 ox he1 n1 s1 => ?_)
    obtain ⟨F0, r0⟩ := resv_ok he1 ox hr1
    obtain ⟨b, xs, rfl, q1, q2⟩ := r0.tup_of
    exact ⟨b, rfl, ⟨xs, q1⟩, hR _ _ _ Fd F1 (ORs.one_ref ox) he1 n1 s1 walkP_tup⟩
  · refine (pi_list ha).run pins s σ H R I (tO_mk he n h1 fun v H1 Fd F1 ox he1 n1 s1 => ?_)
    obtain ⟨F0, r0⟩ := resv_ok he1 ox hr1
    obtain ⟨b, xs, rfl, q1, q2⟩ := pk_list hl r0
    exact ⟨b, rfl, ⟨xs, q1⟩, hR _ _ _ Fd F1 (ORs.one_ref ox) he1 n1 s1 (walkP_list hl)⟩
  · refine (pi_str ha).run pins s σ H R I (tO_mk he n h1 fun v H1 Fd F1 ox he1 n1 s1 => ?_)
    obtain ⟨F0, r0⟩ := resv_ok he1 ox hr1
    obtain ⟨rfl, ok⟩ := r0.str_of
    exact ⟨_, rfl, hR _ _ _ Fd F1 (ORs.one_ref ox) he1 n1 s1 walkP_str⟩
theorem ints_one {ds : List D} {ps : List P} (h : items .rng1 ds = some ps) : ∃ j : Int, ds = [.imm (.int j)] ∧ (-(2 ^ 62) ≤ j ∧ j < 2 ^ 62) ∧ ps = (List.range j.toNat).map fun k : Nat => P.int (k : Int) := by
  unfold items at h
  split at h
  all_goals first
    | (rename_i e _; cases e; done)
    | (rename_i e; cases e; done)
    | skip
  all_goals first
    | (cases h; done)
    | skip
  all_goals
    split at h
    · rename_i c
      cases h
      unfold small62 at c
      exact ⟨_, rfl, of_decide_eq_true c, rfl⟩
    · cases h
theorem ints_two {ds : List D} {ps : List P} (h : items .rng2 ds = some ps) : ∃ i j : Int, ds = [.imm (.int i), .imm (.int j)] ∧ (-(2 ^ 62) ≤ i ∧ i < 2 ^ 62 ∧ -(2 ^ 62) ≤ j ∧ j < 2 ^ 62) ∧ ps = (List.range (j - i).toNat).map fun k : Nat => P.int (i + (k : Int)) := by
  unfold items at h
  split at h
  all_goals first
    | (rename_i e _; cases e; done)
    | (rename_i e; cases e; done)
    | skip
  all_goals first
    | (cases h; done)
    | skip
  all_goals
    split at h
    · rename_i c
      cases h
      rw [Bool.and_eq_true] at c
      unfold small62 at c
      have c1 := of_decide_eq_true c.1
      have c2 := of_decide_eq_true c.2
      exact ⟨_, _, rfl, ⟨c1.1, c1.2, c2.1, c2.2⟩, rfl⟩
    · cases h
theorem ints_three {ds : List D} {ps : List P} (h : items .rng3 ds = some ps) : ∃ i j : Int, ds = [.imm (.int i), .imm (.int j), .imm (.int (-1))] ∧ (-(2 ^ 62) ≤ i ∧ i < 2 ^ 62 ∧ -(2 ^ 62) ≤ j ∧ j < 2 ^ 62) ∧ ps = (List.range (i - j).toNat).map fun k : Nat => P.int (i - (k : Int)) := by
  unfold items at h
  split at h
  all_goals first
    | (rename_i e _; cases e; done)
    | (rename_i e; cases e; done)
    | skip
  all_goals first
    | (cases h; done)
    | skip
  all_goals
    split at h
    · rename_i c
      cases h
      rw [Bool.and_eq_true, Bool.and_eq_true] at c
      unfold small62 at c
      have c1 := of_decide_eq_true c.1.1
      have c2 := of_decide_eq_true c.1.2
      have c3 := of_decide_eq_true c.2
      subst c3
      exact ⟨_, _, rfl, ⟨c1.1, c1.2, c2.1, c2.2⟩, rfl⟩
    · cases h
theorem enum_of {ds : List D} {ps : List P} (h : items .enum ds = some ps) : ∃ d qs, ds = [d] ∧ elems d = some qs ∧ ps = qs.zipIdx.map fun q => P.tup [.int (q.2 : Int), q.1] := by
  match ds, h with
  | [x], h =>
    have h : (elems x).map _ = some ps := h
    cases q : elems x with
    | none => rw [q] at h; cases h
    | some qs => rw [q] at h; cases h; exact ⟨x, qs, rfl, q, rfl⟩
theorem zip_of {ds : List D} {ps : List P} (h : items .zip ds = some ps) : ∃ d d2 qs rs, ds = [d, d2] ∧ ps = (qs.zip rs).map (fun q => P.tup [q.1, q.2]) ∧ elems d = some qs ∧ elems d2 = some rs := by
  match ds, h with
  | [x, y], h =>
    obtain ⟨qs, h1, h2⟩ := bind_some (show zipSem x y = some ps from h)
    obtain ⟨rs, h3, h4⟩ := bind_some h2
    cases h4
    exact ⟨x, y, qs, rs, rfl, rfl, h1, h3⟩
theorem two_ds {K : PySem.W.Frag} {H : Hp} {vs : List V} {d d2 : D} (pk : PkAll K H vs [d, d2]) : ∃ v u F G, vs = [v, u] ∧ Rep K H v d F ∧ Rep K H u d2 G := by
  cases pk with
  | cons r t =>
    obtain ⟨F, r⟩ := r
    obtain ⟨u, G, rfl, q⟩ := t.one
    exact ⟨_, u, F, G, rfl, r, q⟩
theorem snd_I {ik : IK} {as : List E} {x : Expr} (g : Good T Φ k sc X) (h : chkI sc (isTup tg) ik (fun xs => chkEs T sc as xs) x = true)
    (hE : ∀ a x, as = [a] → chkE T sc a x = true → PE X x (tO X.K (evo Φ T.G a))) (hA : ∀ xs, chkEs T sc as xs = true → PA X xs (tOs X.K (evos Φ T.G as))) : PI X tg x (tI X.K ik (evos Φ T.G as)) := by
  cases ik with
  | seq =>
    have h := (Bool.and_eq_true _ _).mp h
    cases as with
    | nil => have := chkEs_len h.2; cases this
    | cons a as =>
      obtain ⟨y, ys, e, _, h2, h3⟩ := chkEs_cons h.2
      cases e
      cases as with
      | nil => exact snd_iseq (hE a _ rfl h2)
      | cons _ _ => have := chkEs_len h3; cases this
  | rng1 =>
    obtain ⟨p, args, pos, rfl, hg, hs, hn2⟩ := chkC_of (y := "range") (n := 1) h
    obtain ⟨g1, g2, g3⟩ := gl_of hg
    have stars := chkEs_star hs
    match args, hn2, stars, hs with
    | [y], _, stars, hs =>
      simp only [List.all_cons, List.all_nil, Bool.and_true] at stars
      refine ⟨fun pins s σ H R I h => (pi_range1 (g.gl g1) (g.blt _ (by decide)) (hA _ hs) (star_of stars _ _)).run pins s σ H R I ?_⟩
      obtain ⟨e, F, os, e', ds, ps, he, n, hf, hr, hi, hR⟩ := h
      refine ⟨e, F, os, e', he, n, hf, fun vs H1 Fd F1 rs he1 n1 s1 => ?_⟩
      obtain ⟨j, rfl, ⟨c1, c2⟩, rfl⟩ := ints_one hi
      obtain ⟨v, F0, rfl, r⟩ := (resvs_ok he1 rs hr).one
      obtain rfl := r.int_of
      refine ⟨j, rfl, c1, c2, hR _ _ _ Fd F1 rs he1 n1 s1 ?_⟩
      have w := walkP_rng (K := X.K) (G := fun H => PkAll X.K H [.int j] [.imm (.int j)]) (lo := 0) (n := j.toNat)
      simpa using w
  | rng2 =>
    obtain ⟨p, args, pos, rfl, hg, hs, hn2⟩ := chkC_of (y := "range") (n := 2) h
    obtain ⟨g1, g2, g3⟩ := gl_of hg
    have stars := chkEs_star hs
    match args, hn2, stars, hs with
    | [y, z], _, stars, hs =>
      simp only [List.all_cons, List.all_nil, Bool.and_true, Bool.and_eq_true] at stars
      refine ⟨fun pins s σ H R I h => (pi_range2 (g.gl g1) (g.blt _ (by decide)) (hA _ hs) (by rw [star_of stars.1, star_of stars.2] <;> rfl) (star_of stars.2 _ _)).run pins s σ H R I ?_⟩
      obtain ⟨e, F, os, e', ds, ps, he, n, hf, hr, hi, hR⟩ := h
      refine ⟨e, F, os, e', he, n, hf, fun vs H1 Fd F1 rs he1 n1 s1 => ?_⟩
      obtain ⟨i, j, rfl, c, rfl⟩ := ints_two hi
      obtain ⟨v, u, F0, G0, rfl, r, r'⟩ := two_ds (resvs_ok he1 rs hr)
      obtain rfl := r.int_of
      obtain rfl := r'.int_of
      exact ⟨i, j, rfl, c, hR _ _ _ Fd F1 rs he1 n1 s1 walkP_rng⟩
  | rng3 =>
    obtain ⟨p, args, pos, rfl, hg, hs, hn2⟩ := chkC_of (y := "range") (n := 3) h
    obtain ⟨g1, g2, g3⟩ := gl_of hg
    have stars := chkEs_star hs
    match args, hn2, stars, hs with
    | [y, z, w], _, stars, hs =>
      rw [List.all_cons, Bool.and_eq_true] at stars
      refine ⟨fun pins s σ H R I h => (pi_range3 (g.gl g1) (g.blt _ (by decide)) (hA _ hs) (star_of stars.1 _ _) (stars_of stars.2)).run pins s σ H R I ?_⟩
      obtain ⟨e, F, os, e', ds, ps, he, n, hf, hr, hi, hR⟩ := h
      refine ⟨e, F, os, e', he, n, hf, fun vs H1 Fd F1 rs he1 n1 s1 => ?_⟩
      obtain ⟨i, j, rfl, c, rfl⟩ := ints_three hi
      have pk := resvs_ok he1 rs hr
      cases pk with
      | cons r t =>
        obtain ⟨F0, r⟩ := r
        obtain ⟨v, u, F2, G2, rfl, r', r''⟩ := two_ds t
        obtain rfl := r.int_of
        obtain rfl := r'.int_of
        obtain rfl := r''.int_of
        exact ⟨i, j, -1, (i - j).toNat, rfl, RgC.neg c.1 c.2.1 c.2.2.1 c.2.2.2, hR _ _ _ Fd F1 rs he1 n1 s1 walkP_rngD⟩
  | enum =>
    have h := (Bool.and_eq_true _ _).mp h
    obtain ⟨ht, h⟩ := h
    obtain ⟨p, args, pos, rfl, hg, hs, hn2⟩ := chkC_of (y := "enumerate") (n := 1) h
    obtain ⟨g1, g2, g3⟩ := gl_of hg
    have stars := chkEs_star hs
    match args, hn2, stars, hs with
    | [y], _, stars, hs =>
      simp only [List.all_cons, List.all_nil, Bool.and_true] at stars
      obtain ⟨e1, e2, e3, rfl⟩ := isTup_of ht
      · refine ⟨fun pins s σ H R I h => (pi_enumG (g.gl g1) (g.blt _ (by decide)) (hA _ hs) (star_of stars _ _)).run pins s σ H R I ?_⟩
        obtain ⟨e, F, os, e', ds, ps, he, n, hf, hr, hi, hR⟩ := h
        refine ⟨e, F, os, e', he, n, hf, fun vs H1 Fd F1 rs he1 n1 s1 => ?_⟩
        obtain ⟨d, qs, rfl, hl, rfl⟩ := enum_of hi
        obtain ⟨v, F0, rfl, r⟩ := (resvs_ok he1 rs hr).one
        obtain ⟨kk, rfl, kd⟩ := rep_sk r hl
        obtain ⟨xs, q1, q2⟩ := sk_rep kd r hl
        exact ⟨kk, xs, rfl, q1, hR _ _ _ Fd F1 rs he1 n1 s1 (walkP_enum kd hl)⟩
  | zip =>
    have h := (Bool.and_eq_true _ _).mp h
    obtain ⟨ht, h⟩ := h
    obtain ⟨p, args, pos, rfl, hg, hs, hn2⟩ := chkC_of (y := "zip") (n := 2) h
    obtain ⟨g1, g2, g3⟩ := gl_of hg
    have stars := chkEs_star hs
    match args, hn2, stars, hs with
    | [y, z], _, stars, hs =>
      rw [List.all_cons, Bool.and_eq_true] at stars
      obtain ⟨e1, e2, e3, rfl⟩ := isTup_of ht
      · refine ⟨fun pins s σ H R I h => (pi_zipG (g.gl g1) (g.blt _ (by decide)) (hA _ hs) (star_of stars.1 _ _) (stars_of stars.2)).run pins s σ H R I ?_⟩
        obtain ⟨e, F, os, e', ds, ps, he, n, hf, hr, hi, hR⟩ := h
        refine ⟨e, F, os, e', he, n, hf, fun vs H1 Fd F1 rs he1 n1 s1 => ?_⟩
        obtain ⟨d, d2, qs, ws, rfl, rfl, l1, l2⟩ := zip_of hi
        obtain ⟨v, u, F2, G2, rfl, r, r'⟩ := two_ds (resvs_ok he1 rs hr)
        obtain ⟨k1, rfl, kd1⟩ := rep_sk r l1
        obtain ⟨k2, rfl, kd2⟩ := rep_sk r' l2
        obtain ⟨xs, q1, q2⟩ := sk_rep kd1 r l1
        obtain ⟨ys, q3, q4⟩ := sk_rep kd2 r' l2
        exact ⟨k1, k2, xs, ys, rfl, q1, q3, hR _ _ _ Fd F1 rs he1 n1 s1 (walkP_zip kd1 kd2 l1 l2)⟩
end
end Sw
set_option maxHeartbeats 1000000
/-! Sw, part 16: targets, comprehensions. -/
namespace Sw
open PySem PySem.Spec PyProof.Rows L2
/-- the slots but those of l stand -/
def Agr (l : List Nat) (σ σ' : L2.St) : Prop := σ'.length = σ.length ∧ ∀ j, j ∉ l → σ'[j]? = σ[j]?
theorem Agr.refl (l : List Nat) (σ : L2.St) : Agr l σ σ := ⟨rfl, fun _ _ => rfl⟩
theorem Agr.trans {l : List Nat} {σ τ υ : L2.St} (a : Agr l σ τ) (b : Agr l τ υ) : Agr l σ υ := ⟨b.1.trans a.1, fun j h => (b.2 j h).trans (a.2 j h)⟩
theorem Agr.mono {l m : List Nat} {σ τ : L2.St} (a : Agr l σ τ) (h : ∀ j, j ∈ l → j ∈ m) : Agr m σ τ := ⟨a.1, fun j n => a.2 j fun z => n (h j z)⟩
theorem agr_set {i : Nat} {σ : L2.St} {x : Option V} : Agr [i] σ (σ.set i x) := ⟨List.length_set, fun j h => List.getElem?_set_ne fun e => h (by rw [e]; exact List.mem_singleton.mpr rfl)⟩
structure StOk (X : Cx) (st : Str → Bool) : Prop where
  loc : ∀ x, st x = true → Loc X.env.scope x
  fn : ∀ x, st x = true → X.fn x = true ∨ X.env.scope.names.lookup x = some .local
def tG (K : PySem.W.Frag) (t : Pat) : TG := fun v σ H Q => ∃ e F p e', EnvRep K H σ e F ∧ F.Nodup ∧ PRep K H v p ∧ bindP t p e = some e' ∧
  ∀ σ' F', EnvRep K H σ' e' F' → F'.Nodup → (∀ a, a ∈ F' → a ∈ F) → Agr (asgP t) σ σ' → Q σ' H
def tGs (K : PySem.W.Frag) (ts : List Pat) : TGs := fun vs σ H Q => ∃ e F ps e', EnvRep K H σ e F ∧ F.Nodup ∧ PReps K H vs ps ∧ bindPs ts ps e = some e' ∧
  ∀ σ' F', EnvRep K H σ' e' F' → F'.Nodup → (∀ a, a ∈ F' → a ∈ F) → Agr (asgPs ts) σ σ' → Q σ' H
theorem PG.weak {X : Cx} {e : Expr} {t t' : TG} (h : PG X e t) (w : ∀ v σ H Q, t' v σ H Q → t v σ H Q) : PG X e t' := ⟨fun pins s σ H v u Q I r q => h.run pins s σ H v u Q I r (w v σ H Q q)⟩
theorem PGs.weak {X : Cx} {e : List Expr} {t t' : TGs} (h : PGs X e t) (w : ∀ v σ H Q, t' v σ H Q → t v σ H Q) : PGs X e t' := ⟨fun pins s σ H v u Q I r q => h.run pins s σ H v u Q I r (w v σ H Q q)⟩
theorem assign_of {e : Expr} (h : notStar e = true) (es : List Expr) (env : PySem.Env) : assignEach (e :: es) env = (false, assign e env) :: assignEach es env := by
  cases e <;> first | rfl | cases h
theorem assigns_of {N : List Str} {st : Str → Bool} {env : PySem.Env} : ∀ {ts : List Pat} {xs : List Expr}, chkPs N st ts xs = true → (assignEach xs env).length = ts.length ∧ (assignEach xs env).findIdx? (·.1) = none
  | [], xs, h => by
    cases xs with
    | nil => exact ⟨rfl, rfl⟩
    | cons _ _ => simp [chkPs] at h
  | t :: ts, xs, h => by
    cases xs with
    | nil => simp [chkPs] at h
    | cons x xs =>
      simp only [chkPs, Bool.and_eq_true] at h
      obtain ⟨h1, h2⟩ := assigns_of (env := env) (ts := ts) (xs := xs) h.2
      rw [assign_of h.1.1]
      refine ⟨by rw [List.length_cons, h1, List.length_cons], ?_⟩
      rw [List.findIdx?_cons, h2] <;> rfl
theorem PG.or {X : Cx} {e : Expr} {t t' : TG} (h : PG X e t) (h' : PG X e t') : PG X e (fun v σ H Q => t v σ H Q ∨ t' v σ H Q) :=
  ⟨fun pins s σ H v u Q I r q => q.elim (h.run pins s σ H v u Q I r) (h'.run pins s σ H v u Q I r)⟩
section
variable {X : Cx} {st : Str → Bool}
mutual
theorem snd_pat (hN : X.N.Nodup) (hc : X.calm = true) (ok : StOk X st) : ∀ {t : Pat} {x : Expr}, chkP X.N st t x = true → PG X x (tG X.K t)
  | .nm i, x, h => by
    cases x with
    | Name y pos =>
      simp only [chkP, Bool.and_eq_true] at h
      refine PG.weak (pg_name hN (of_decide_eq_true h.1) (ok.loc _ h.2) (ok.fn _ h.2)) fun v σ H Q q => ?_
      obtain ⟨e, F, p, e', he, n, r, hb, hQ⟩ := q
      simp only [bindP, Option.some.injEq] at hb
      subst hb
      obtain ⟨F', h1, h2, h3⟩ := he.setD (Rep.imm r) i
      refine hQ _ F' h1 (h3 n) (fun a z => (h2 a z).elim (fun z => nomatch z) id) ?_
      simp only [asgP]
      exact agr_set
    | _ => simp [chkP] at h
  | .tp ts, x, h => by
    cases x with
    | Tuple xs j pos =>
      simp only [chkP] at h
      obtain ⟨a1, a2⟩ := assigns_of (env := X.env) h
      refine PG.weak (PG.or (pg_tup (n := ts.length) hc (snd_pats hN hc ok h) a1 a2) (pg_unl (n := ts.length) hc (snd_pats hN hc ok h) a1 a2)) fun v σ H Q q => ?_
      obtain ⟨e, F, p, e', he, n, r, hb, hQ⟩ := q
      cases p <;> simp only [bindP] at hb <;> first | (cases hb; done) | skip
      · rename_i ps
        cases r with
        | @tup a xs _ s1 q1 =>
          refine .inl ⟨a, xs, rfl, SqT.of s1, ?_, e, F, ps, e', he, n, q1, hb, fun σ' F' h1 h2 h3 h4 => hQ σ' F' h1 h2 h3 (by simp only [asgP]; exact h4)⟩
          rw [q1.length]
          exact bindPs_len hb
      · rename_i ps
        cases r with
        | @lst a xs _ s1 q1 =>
          refine .inr ⟨a, xs, rfl, s1.sql, ?_, e, F, ps, e', he, n, q1, hb, fun σ' F' h1 h2 h3 h4 => hQ σ' F' h1 h2 h3 (by simp only [asgP]; exact h4)⟩
          rw [q1.length]
          exact bindPs_len hb
    | _ => simp [chkP] at h
theorem snd_pats (hN : X.N.Nodup) (hc : X.calm = true) (ok : StOk X st) : ∀ {ts : List Pat} {xs : List Expr}, chkPs X.N st ts xs = true → PGs X xs (tGs X.K ts)
  | [], xs, h => by
    cases xs with
    | nil =>
      refine PGs.weak pgs_nil fun v σ H Q q => ?_
      obtain ⟨e, F, ps, e', he, n, r, hb, hQ⟩ := q
      cases ps with
      | nil =>
        cases r
        simp only [bindPs, Option.some.injEq] at hb
        subst hb
        exact ⟨rfl, hQ σ F he n (fun a z => z) (Agr.refl _ _)⟩
      | cons _ _ => simp [bindPs] at hb
    | cons _ _ => simp [chkPs] at h
  | t :: ts, xs, h => by
    cases xs with
    | nil => simp [chkPs] at h
    | cons x xs =>
      simp only [chkPs, Bool.and_eq_true] at h
      refine PGs.weak (pgs_cons (snd_pat hN hc ok h.1.2) (snd_pats hN hc ok h.2) (by rw [assign_of h.1.1] <;> rfl)) fun v σ H Q q => ?_
      obtain ⟨e, F, ps, e', he, n, r, hb, hQ⟩ := q
      cases ps with
      | nil => simp [bindPs] at hb
      | cons p ps =>
        simp only [bindPs] at hb
        obtain ⟨e1, hb1, hb2⟩ := bind_some hb
        cases r with
        | cons r1 r2 =>
          refine ⟨_, _, rfl, e, F, p, e1, he, n, r1, hb1, fun σ1 F1 h1 h2 h3 h4 => ⟨e1, F1, ps, e', h1, h2, r2, hb2, fun σ2 F2 g1 g2 g3 g4 => ?_⟩⟩
          refine hQ σ2 F2 g1 g2 (fun a z => h3 a (g3 a z)) ?_
          simp only [asgPs]
          exact (h4.mono fun j z => List.mem_append_left _ z).trans (g4.mono fun j z => List.mem_append_right _ z)
theorem bindPs_len : ∀ {ts : List Pat} {ps : List P} {e e' : En}, bindPs ts ps e = some e' → ps.length = ts.length
  | [], ps, e, e', h => by
    cases ps with
    | nil => rfl
    | cons _ _ => simp [bindPs] at h
  | t :: ts, ps, e, e', h => by
    cases ps with
    | nil => simp [bindPs] at h
    | cons p ps =>
      simp only [bindPs] at h
      obtain ⟨e1, _, h2⟩ := bind_some h
      rw [List.length_cons, List.length_cons, bindPs_len h2]
end
end
/-! ### the block's own names -/
section
variable {K : PySem.W.Frag} {H H' : Hp}
theorem EnvRep.setNN {σ : L2.St} {e : En} {F : List Addr} (h : EnvRep K H σ e F) (i : Nat) : ∃ F', EnvRep K H (σ.set i none) (e.set i none) F' ∧ (∀ a, a ∈ F' → a ∈ F) ∧ (F.Nodup → F'.Nodup) := by
  induction h generalizing i with
  | nil => exact ⟨[], .nil, fun a z => z, fun _ => List.nodup_nil⟩
  | @ns x0 σ0 e0 F0 h0 ih =>
    cases i with
    | zero => exact ⟨F0, .ns h0, fun a z => z, fun n => n⟩
    | succ i =>
      obtain ⟨F', h1, h2, h3⟩ := ih i
      exact ⟨F', .ns h1, h2, h3⟩
  | @sm v0 d0 σ0 e0 F0 G0 r0 h0 ih =>
    cases i with
    | zero => exact ⟨G0, .ns h0, fun a z => List.mem_append_right _ z, fun n => nd_right n⟩
    | succ i =>
      obtain ⟨F', h1, h2, h3⟩ := ih i
      refine ⟨F0 ++ F', .sm r0 h1, fun a z => (List.mem_append.mp z).elim (fun z => List.mem_append_left _ z) fun z => List.mem_append_right _ (h2 a z), fun n => ?_⟩
      exact nd_mk (nd_left n) (h3 (nd_right n)) fun a z y => nd_off n a z (h2 a y)
theorem EnvRep.wiped {σ : L2.St} {e : En} {F : List Addr} (h : EnvRep K H σ e F) : ∀ own : List Nat, ∃ F', EnvRep K H (wipe σ own) (wipeE e own) F' ∧ (∀ a, a ∈ F' → a ∈ F) ∧ (F.Nodup → F'.Nodup)
  | [] => ⟨F, h, fun a z => z, fun n => n⟩
  | i :: own => by
    obtain ⟨F1, h1, h2, h3⟩ := h.wiped own
    obtain ⟨F2, g1, g2, g3⟩ := h1.setNN i
    exact ⟨F2, g1, fun a z => h2 a (g2 a z), fun n => g3 (h3 n)⟩
theorem EnvRep.unset {τ : L2.St} {e : En} {F : List Addr} {i : Nat} {x : Option D} (h : EnvRep K H (τ.set i none) e F) (hx : ∀ d, x = some d → ∃ w, τ[i]? = some (some w) ∧ Rep K H w d []) : ∃ F', EnvRep K H τ (e.set i x) F' ∧ (∀ a, a ∈ F' → a ∈ F) ∧ (F.Nodup → F'.Nodup) := by
  induction τ generalizing e F i with
  | nil => cases h; exact ⟨[], .nil, fun a z => z, fun n => n⟩
  | cons y τ ih =>
    cases i with
    | zero =>
      rw [List.set_cons_zero] at h
      cases h with
      | ns h =>
        cases x with
        | none => exact ⟨F, .ns h, fun a z => z, fun n => n⟩
        | some d =>
          obtain ⟨w, h1, h2⟩ := hx d rfl
          have e1 : y = some w := by simpa using h1
          subst e1
          exact ⟨[] ++ F, .sm h2 h, fun a z => z, fun n => n⟩
    | succ i =>
      rw [List.set_cons_succ] at h
      cases h with
      | ns h =>
        obtain ⟨F', h1, h2, h3⟩ := ih h (fun d e => by obtain ⟨w, h1, h2⟩ := hx d e; exact ⟨w, by simpa using h1, h2⟩)
        exact ⟨F', .ns h1, h2, h3⟩
      | @sm v0 d0 σ0 e0 F0 G0 r0 h =>
        obtain ⟨F', h1, h2, h3⟩ := ih h (fun d e => by obtain ⟨w, h1, h2⟩ := hx d e; exact ⟨w, by simpa using h1, h2⟩)
        refine ⟨F0 ++ F', .sm r0 h1, fun a z => (List.mem_append.mp z).elim (fun z => List.mem_append_left _ z) fun z => List.mem_append_right _ (h2 a z), fun n => ?_⟩
        exact nd_mk (nd_left n) (h3 (nd_right n)) fun a z y => nd_off n a z (h2 a y)
theorem wipe_get {σ : L2.St} {i : Nat} : ∀ {own : List Nat}, i ∉ own → (wipe σ own)[i]? = σ[i]?
  | [], _ => rfl
  | j :: own, h => by
    unfold wipe
    rw [List.getElem?_set_ne (fun e => h (by rw [e]; exact List.mem_cons_self)), wipe_get fun z => h (List.mem_cons_of_mem _ z)]
theorem wipe_hit {σ : L2.St} {i : Nat} : ∀ {own : List Nat}, i ∈ own → i < σ.length → (wipe σ own)[i]? = some none
  | j :: own, h, hl => by
    unfold wipe
    by_cases c : j = i
    · subst c
      rw [List.getElem?_set_self (by rw [wipe_length]; exact hl)]
    · rw [List.getElem?_set_ne c]
      exact wipe_hit ((List.mem_cons.mp h).resolve_left fun e => c e.symm) hl
theorem wipe_agr {σ τ : L2.St} {l own : List Nat} (a : Agr l (wipe σ own) τ) (h : ∀ j, j ∈ l → j ∈ own) : wipe τ own = wipe σ own := by
  apply List.ext_getElem?
  intro j
  by_cases c : j ∈ own
  · by_cases hl : j < σ.length
    · rw [wipe_hit c hl, wipe_hit c (by rw [a.1, wipe_length]; exact hl)]
    · rw [List.getElem?_eq_none (by rw [wipe_length, a.1, wipe_length]; omega), List.getElem?_eq_none (by rw [wipe_length]; omega)]
  · rw [wipe_get c, a.2 j fun z => c (h j z)]
theorem EnvRep.put {σ : L2.St} {e0 : En} (h0 : ∀ i p, getE e0 i = some (.imm p) → ∃ w, σ[i]? = some (some w) ∧ PRep K H w p) : ∀ {own : List Nat} {e : En} {F : List Addr}, own.Nodup → EnvRep K H (wipe σ own) e F → ∃ F', EnvRep K H σ (putBack e e0 own) F' ∧ (∀ a, a ∈ F' → a ∈ F) ∧ (F.Nodup → F'.Nodup)
  | [], e, F, _, h => ⟨F, h, fun a z => z, fun n => n⟩
  | i :: own, e, F, nd, h => by
    have key : ∃ F1, EnvRep K H (wipe σ own) (e.set i (keepImm (getE e0 i))) F1 ∧ (∀ a, a ∈ F1 → a ∈ F) ∧ (F.Nodup → F1.Nodup) := by
      have c := (List.nodup_cons.mp nd).1
      refine EnvRep.unset h fun d q => ?_
      unfold keepImm at q
      split at q
      · rename_i p hp
        cases q
        obtain ⟨w, h1, h2⟩ := h0 i p hp
        exact ⟨w, by rw [wipe_get c]; exact h1, Rep.imm h2⟩
      · cases q
    obtain ⟨F1, h1, h2, h3⟩ := key
    obtain ⟨F2, g1, g2, g3⟩ := EnvRep.put h0 (List.nodup_cons.mp nd).2 h1
    exact ⟨F2, g1, fun a z => h2 a (g2 a z), fun n => g3 (h3 n)⟩
end
/-! ### comprehensions -/
theorem lock_get {os : List Opd} {e e' : En} (h : lockOk os e e' = true) : resvs e' os = resvs e os := by
  induction os with
  | nil => rfl
  | cons o os ih =>
    unfold lockOk at h
    rw [List.all_cons, Bool.and_eq_true] at h
    unfold resvs
    rw [ih h.2]
    cases o with
    | tmp d => rfl
    | slot i =>
      have h1 : getE e' i = getE e i := of_decide_eq_true h.1
      show (getE e' i).bind _ = (getE e i).bind _
      rw [h1]
theorem lock_refl (os : List Opd) (e : En) : lockOk os e e = true := by
  unfold lockOk
  rw [List.all_eq_true]
  intro o _
  cases o with
  | tmp d => rfl
  | slot i => exact decide_eq_true rfl
theorem lock_trans {os : List Opd} {e e1 e2 : En} (h : lockOk os e e1 = true) (h' : lockOk os e1 e2 = true) : lockOk os e e2 = true := by
  unfold lockOk at h h' ⊢
  rw [List.all_eq_true] at h h' ⊢
  intro o ho
  have a := h o ho
  have b := h' o ho
  cases o with
  | tmp d => rfl
  | slot i => exact decide_eq_true ((of_decide_eq_true b).trans (of_decide_eq_true a))
theorem getE_wipe {e : En} {i : Nat} : ∀ {own : List Nat}, i ∉ own → getE (wipeE e own) i = getE e i
  | [], _ => rfl
  | j :: own, h => by
    unfold wipeE
    rw [getE_set_ne _ _ (fun q => h (by rw [q]; exact List.mem_cons_self)), getE_wipe fun z => h (List.mem_cons_of_mem _ z)]
theorem free_not {os : List Opd} {own : List Nat} (h : freeOf os own = true) : ∀ i, Opd.slot i ∈ os → i ∉ own := fun i hi => by
  unfold freeOf at h
  have := List.all_eq_true.mp h _ hi
  simpa using this
theorem lock_wipe {os : List Opd} {own : List Nat} {e : En} (h : freeOf os own = true) : lockOk os e (wipeE e own) = true := by
  unfold lockOk
  rw [List.all_eq_true]
  intro o ho
  cases o with
  | tmp d => rfl
  | slot i => exact decide_eq_true (getE_wipe (free_not h i ho))
theorem ORs.slots {K : PySem.W.Frag} {H : Hp} {σ τ : L2.St} {vs : List V} {os : List Opd} {F : List Addr} (h : ORs K H σ vs os F) (a : ∀ i, Opd.slot i ∈ os → τ[i]? = σ[i]?) : ORs K H τ vs os F := by
  induction h with
  | nil => exact .nil
  | @cons v vs o os F G r _ ih =>
    refine .cons ?_ (ih fun i z => a i (List.mem_cons_of_mem _ z))
    cases o with
    | tmp d => exact r
    | slot i =>
      obtain ⟨h1, h2⟩ := (show σ[i]? = some (some v) ∧ F = [] from r)
      exact (show τ[i]? = some (some v) ∧ F = [] from ⟨by rw [a i List.mem_cons_self]; exact h1, h2⟩)
theorem PTs.weak {X : Cx} {e : List Expr} {t t' : TT} (h : PTs X e t) (w : ∀ σ H Q, t' σ H Q → t σ H Q) : PTs X e t' := ⟨fun pins s σ H Q I q => h.run pins s σ H Q I (w σ H Q q)⟩
section
variable {T : Tab} {Φ : CallS} {k : Nat} {sc : Scope} {X : Cx}
theorem snd_ptsNil : PTs X [] (tB X.K (evtests Φ T.G [])) := PTs.weak pts_nil fun σ H Q h => by
  obtain ⟨e, F, b, e', he, n, hf, hQ⟩ := h
  simp only [evtests, Option.some.injEq, Prod.mk.injEq] at hf
  obtain ⟨rfl, rfl⟩ := hf
  exact hQ H F he n (Stp.refl H F)
theorem snd_ptsOne {a : E} {x : Expr} (h : PT X x (tTst X.K (evo Φ T.G a))) : PTs X [x] (tB X.K (evtests Φ T.G [a])) := PTs.weak (pts_one h) fun σ H Q h => by
  obtain ⟨e, F, b, e', he, n, hf, hQ⟩ := h
  simp only [evtests] at hf
  obtain ⟨⟨y, e1⟩, h1, hf⟩ := bind_some hf
  obtain ⟨d, h2, hf⟩ := bind_some hf
  obtain ⟨b', h3, hf⟩ := bind_some hf
  cases hf
  exact ⟨e, F, y, _, d, _, he, n, h1, h2, h3, hQ⟩
def stepC (Φ : CallS) (G : List P) (own : List Nat) (t : Pat) (tests : List E) (elt : E) (os : List Opd) (e1 : En) (p : P) (acc : List P) (e2 : En) : Option (List P × En) :=
  (bindP t p e2).bind fun e3 => (evtests Φ G tests e3).bind fun b =>
    if b.1 then (evo Φ G elt b.2).bind fun x => (immO x.1).bind fun q => if lockOk os e1 x.2 ∧ acc.length < line then some (acc ++ [q], wipeE x.2 own) else none
    else if lockOk os e1 b.2 then some (acc, wipeE b.2 own) else none
theorem evo_cmp {own : List Nat} {t : Pat} {ik : IK} {as tests : List E} {elt : E} {e e2 : En} {r : Opd} (h : evo Φ T.G (.cmp own t ik as tests elt) e = some (r, e2)) :
    ∃ os e1 ds ps acc e9, evos Φ T.G as e = some (os, e1) ∧ resvs e1 os = some ds ∧ items ik ds = some ps ∧ freeOf os own = true ∧ compL (stepC Φ T.G own t tests elt os e1) ps [] (wipeE e1 own) = some (acc, e9) ∧ r = .tmp (.lst acc) ∧ e2 = putBack e9 e1 own := by
  simp only [evo] at h
  obtain ⟨⟨os, e1⟩, h1, h⟩ := bind_some h
  obtain ⟨ds, h2, h⟩ := bind_some h
  obtain ⟨ps, h3, h⟩ := bind_some h
  split at h
  · rename_i c
    obtain ⟨⟨acc, e9⟩, h4, h⟩ := bind_some h
    cases h
    exact ⟨os, e1, ds, ps, acc, e9, h1, h2, h3, c, h4, rfl, rfl⟩
  · cases h
/-- what a turn starts from; D the new list -/
structure CInv (K : PySem.W.Frag) (own : List Nat) (σ : L2.St) (os : List Opd) (e1 : En) (vs : List V) (D : Addr) (H0 : Hp) (F0 : List Addr) (H : Hp) (acc : List P) (e : En) : Prop where
  ex : ∃ va Fd F, H D = some (.lst va) ∧ PReps K H va acc ∧ ORs K H (wipe σ own) vs os Fd ∧ EnvRep K H (wipe σ own) e F ∧ (D :: (Fd ++ F)).Nodup ∧ Stp H0 F0 H (D :: (Fd ++ F)) ∧ Keeps H0 H
  lock : lockOk os e1 e = true
theorem lay_list {H : Hp} {D : Addr} {xs : List V} {F : List Addr} (h : H D = none) (m : MutF H F) (n : F.Nodup) : Stp H F (upd H D (.lst xs)) (D :: F) ∧ (D :: F).Nodup :=
  ⟨⟨fun a o e z => by rw [upd_ne (fun y : a = D => by rw [y, h] at e; cases e)]; exact e, fun a z => (List.mem_cons.mp z).elim (fun y => .inr (by rw [y]; exact h)) .inl⟩,
    List.nodup_cons.mpr ⟨(fun z => by obtain ⟨o, e, _⟩ := m D z; rw [h] at e; cases e), n⟩⟩
theorem upd_keeps {H : Hp} {D : Addr} {va : List V} {o : HO} (h : H D = some (.lst va)) : Keeps H (upd H D o) := fun a u e st => by
  rw [upd_ne (fun y : a = D => by subst y; rw [h] at e; cases e; exact st trivial)]
  exact e
theorem stp_pick {H H' : Hp} {F G G' : List Addr} (s : Stp H F H' G) (h : ∀ a ∈ G', a ∈ G) : Stp H F H' G' := s.less (fun a z => z) h
theorem lcmp_reads {own : List Nat} {t : Pat} {ik : IK} {as tests : List E} {elt : E} {ow : List (Str × Nat)} {σ : L2.St} {H : Hp} {Q : VK} (how : ow.map (·.2) = own) (hon : own.Nodup) (hat : ∀ j ∈ asgP t, j ∈ own) (h : tO X.K (evo Φ T.G (.cmp own t ik as tests elt)) σ H Q) :
    tLc (tI X.K ik (evos Φ T.G as)) (tG X.K t) (tB X.K (evtests Φ T.G tests)) (tO X.K (evo Φ T.G elt)) (ow.map (·.2)) σ H Q := by
  subst how
  obtain ⟨e, F, o, e', he0, n0, hf, hQ⟩ := h
  obtain ⟨os, e1, ds, ps, accF, e9, h1, h2, h3, hfree, hL, rfl, rfl⟩ := evo_cmp hf
  refine ⟨e, F, os, e1, ds, ps, he0, n0, h1, h2, h3, fun J vs H1 Fd F1 ors he1 n1 s1 walk => ?_⟩
  intro D hD
  generalize hown : ow.map (·.2) = own at *
  have orsW : ORs X.K H1 (wipe σ own) vs os Fd := ors.slots fun i z => wipe_get (free_not hfree i z)
  obtain ⟨FW, w1, w2, w3⟩ := he1.wiped own
  have nW : (Fd ++ FW).Nodup := nd_mk (nd_left n1) (w3 (nd_right n1)) fun a z y => nd_off n1 a z (w2 a y)
  have sW : Stp H F H1 (Fd ++ FW) := stp_pick s1 fun a z => (List.mem_append.mp z).elim (fun z => List.mem_append_left _ z) fun z => List.mem_append_right _ (w2 a z)
  have smD : Same H1 (upd H1 D (.lst [])) := same_new hD
  obtain ⟨sD, nD⟩ := lay_list (xs := []) hD (orsW.mut.append w1.mut) nW
  have start : CInv X.K own σ os e1 vs D H F (upd H1 D (.lst [])) [] (wipeE e1 own) :=
    ⟨⟨[], Fd, FW, upd_same, .nil, orsW.mono (Keeps.of_same smD) (same_off smD orsW.mut), w1.same smD, nD, sW.trans sD, (sW.keeps he0.mut).trans (Keeps.of_same smD)⟩, lock_wipe hfree⟩
  refine lc_it walk (fun i H' => ∃ acc ei, CInv X.K own σ os e1 vs D H F H' acc ei ∧ Keeps H1 H' ∧ compL (stepC Φ T.G own t tests elt os e1) (ps.drop i) acc ei = some (accF, e9)) ⟨[], _, start, Keeps.of_same smD, by rw [List.drop_zero]; exact hL⟩ (fun i H' hi hp => ?_) (fun i y H2 H3 hi hp hy => ?_) (fun H' hp => ?_)
  · obtain ⟨acc, ei, ⟨⟨va, Gd, Fi, c1, c2, c3, c4, c5, c6, _⟩, lk⟩, _, _⟩ := hp
    exact resvs_ok c4 c3 (by rw [lock_get lk]; exact h2)
  · obtain ⟨acc, ei, ⟨⟨va, Gd, Fi, c1, c2, c3, c4, c5, c6, c7⟩, lk⟩, kp0, hl⟩ := hp
    obtain ⟨sm, p, hp1, hp2⟩ := hy
    have hdr : ps.drop i = p :: ps.drop (i + 1) := by
      obtain ⟨hlt, e⟩ := List.getElem?_eq_some_iff.mp hp1
      rw [List.drop_eq_getElem_cons hlt, e]
    rw [hdr] at hl
    unfold compL at hl
    obtain ⟨⟨acc', e3⟩, hs, hl⟩ := bind_some hl
    unfold stepC at hs
    obtain ⟨eb, hs1, hs⟩ := bind_some hs
    obtain ⟨⟨b, e4⟩, hs2, hs⟩ := bind_some hs
    have c4' := c4.same sm
    have nGF := (List.nodup_cons.mp c5).2
    have dn := (List.nodup_cons.mp c5).1
    refine ⟨ei, Fi, p, eb, c4', nd_right nGF, hp2, hs1, fun σ2 F2 g1 g2 g3 g4 => ⟨wipe_agr g4 hat, eb, F2, b, e4, g1, g2, hs2, fun H4 F4 k1 k2 k3 => ?_⟩⟩
    have hwp : wipe σ2 own = wipe σ own := wipe_agr g4 hat
    have mF2 : MutF H3 F2 := g1.mut
    have nF2 : ∀ a, a ∈ F2 → a ∈ Fi := g3
    have mD : MutF H3 (D :: Gd) := fun a z => (List.mem_cons.mp z).elim (fun y => by rw [y]; exact ⟨_, sm _ _ c1, trivial⟩) fun y => by
      obtain ⟨o, q1, q2⟩ := c3.mut a y
      exact ⟨o, sm _ _ q1, q2⟩
    have off1 : ∀ a ∈ D :: Gd, a ∉ F2 := fun a z y => (List.mem_cons.mp z).elim (fun w => dn (by rw [← w]; exact List.mem_append_right _ (nF2 a y))) fun w => nd_off nGF a w (nF2 a y)
    have kp3 : Keeps H3 H4 := k3.keeps mF2
    have off4 := k3.off mD off1
    have ap4 := k3.apart mD off1
    have d4 : H4 D = some (.lst va) := by rw [off4 D List.mem_cons_self]; exact sm _ _ c1
    have r4 : PReps X.K H4 va acc := (c2.keep (Keeps.of_same sm)).keep kp3
    have o4 : ORs X.K H4 (wipe σ own) vs os Gd := (c3.mono (Keeps.of_same sm) (same_off sm c3.mut)).mono kp3 fun a z => off4 a (List.mem_cons_of_mem _ z)
    -- the step so far
    have st4 : Stp H F H4 (D :: (Gd ++ F4)) := by
      have a1 : Stp H F H3 (D :: (Gd ++ Fi)) := c6.trans (Stp.of_same sm)
      have a2 : Stp H F H3 ((D :: Gd) ++ F2) := stp_pick a1 fun a z => (List.mem_append.mp z).elim (fun z => (List.mem_cons.mp z).elim (fun y => by rw [y]; exact List.mem_cons_self) fun y => List.mem_cons_of_mem _ (List.mem_append_left _ y)) fun z => List.mem_cons_of_mem _ (List.mem_append_right _ (nF2 a z))
      exact a2.trans (k3.frameL (D :: Gd))
    have nD4 : (D :: (Gd ++ F4)).Nodup := by
      have : ((D :: Gd) ++ F4).Nodup := nd_mk (List.nodup_cons.mpr ⟨fun z => dn (List.mem_append_left _ z), nd_left nGF⟩) k2 ap4
      exact this
    cases b with
    | false =>
      dsimp only
      rw [if_neg Bool.false_ne_true] at hs ⊢
      split at hs
      · rename_i lk2
        cases hs
        obtain ⟨F5, m1, m2, m3⟩ := k1.wiped own
        rw [hwp] at m1
        refine ⟨acc, _, ⟨⟨va, Gd, F5, d4, r4, o4, m1, ?_, stp_pick st4 ?_, (c7.trans (Keeps.of_same sm)).trans kp3⟩, lock_trans lk2 (lock_wipe hfree)⟩, (kp0.trans (Keeps.of_same sm)).trans kp3, hl⟩
        · refine List.nodup_cons.mpr ⟨fun z => ?_, nd_mk (nd_left nGF) (m3 k2) fun a z y => ?_⟩
          · rcases List.mem_append.mp z with z | z
            · exact dn (List.mem_append_left _ z)
            · exact ap4 D List.mem_cons_self (m2 D z)
          · exact ap4 a (List.mem_cons_of_mem _ z) (m2 a y)
        · intro a z
          rcases List.mem_cons.mp z with z | z
          · rw [z]; exact List.mem_cons_self
          · rcases List.mem_append.mp z with z | z
            · exact List.mem_cons_of_mem _ (List.mem_append_left _ z)
            · exact List.mem_cons_of_mem _ (List.mem_append_right _ (m2 a z))
      · cases hs
    | true =>
      dsimp only
      rw [if_pos rfl] at hs ⊢
      obtain ⟨⟨z, e5⟩, hs3, hs⟩ := bind_some hs
      obtain ⟨q, hs4, hs⟩ := bind_some hs
      split at hs
      · rename_i lk2
        obtain ⟨lk2, room⟩ := lk2
        cases hs
        refine tO_mk k1 k2 hs3 fun y5 H5 Fy F5 oy he5 n5 s5 => ?_
        obtain ⟨py, rfl⟩ := immO_ok oy hs4
        rw [List.nil_append] at n5 s5
        have mD4 : MutF H4 (D :: Gd) := fun a z => (List.mem_cons.mp z).elim (fun y => by rw [y]; exact ⟨_, d4, trivial⟩) fun y => o4.mut a y
        have kp5 : Keeps H4 H5 := s5.keeps k1.mut
        have off5 := s5.off mD4 ap4
        have ap5 := s5.apart mD4 ap4
        have d5 : H5 D = some (.lst va) := by rw [off5 D List.mem_cons_self]; exact d4
        have r5 := r4.keep kp5
        have o5 : ORs X.K H5 (wipe σ own) vs os Gd := o4.mono kp5 fun a z => off5 a (List.mem_cons_of_mem _ z)
        have kpu : Keeps H5 (upd H5 D (.lst (va ++ [y5]))) := upd_keeps d5
        obtain ⟨F6, m1, m2, m3⟩ := he5.wiped own
        rw [hwp] at m1
        have dF6 : D ∉ F6 := fun z => ap5 D List.mem_cons_self (m2 D z)
        have dGd : D ∉ Gd := fun z => dn (List.mem_append_left _ z)
        refine ⟨va, d5, by rw [r5.length]; exact lt_line room, acc ++ [q], _, ⟨⟨va ++ [y5], Gd, F6, upd_same, (r5.append (.cons py .nil)).keep kpu, o5.mono kpu fun a z => upd_ne fun y => dGd (by rw [← y]; exact z),
          m1.mono kpu fun a z => upd_ne fun y => dF6 (by rw [← y]; exact z), ?_, ?_, (((c7.trans (Keeps.of_same sm)).trans kp3).trans kp5).trans kpu⟩, lock_trans lk2 (lock_wipe hfree)⟩, (((kp0.trans (Keeps.of_same sm)).trans kp3).trans kp5).trans kpu, hl⟩
        · refine List.nodup_cons.mpr ⟨fun z => (List.mem_append.mp z).elim dGd dF6, nd_mk (nd_left nGF) (m3 n5) fun a z y => ap5 a (List.mem_cons_of_mem _ z) (m2 a y)⟩
        · have a3 : Stp H F H5 ((D :: Gd) ++ F5) := (show Stp H F H4 ((D :: Gd) ++ F4) from st4).trans (s5.frameL (D :: Gd))
          have a4 : Stp H5 ((D :: Gd) ++ F5) (upd H5 D (.lst (va ++ [y5]))) ((D :: Gd) ++ F5) := lock_stp (List.mem_append_left _ List.mem_cons_self) fun b z => z
          refine stp_pick (a3.trans a4) fun a z => ?_
          rcases List.mem_cons.mp z with z | z
          · rw [z]; exact List.mem_append_left _ List.mem_cons_self
          · rcases List.mem_append.mp z with z | z
            · exact List.mem_append_left _ (List.mem_cons_of_mem _ z)
            · exact List.mem_append_right _ (m2 a z)
      · cases hs
  · obtain ⟨acc, ei, ⟨⟨va, Gd, Fi, c1, c2, c3, c4, c5, c6, c7⟩, lk⟩, kp0, hl⟩ := hp
    rw [List.drop_length] at hl
    unfold compL at hl
    cases hl
    have dn := (List.nodup_cons.mp c5).1
    obtain ⟨F9, m1, m2, m3⟩ := EnvRep.put (e0 := e1) (fun i p hp => by
      obtain ⟨w, Fi', q1, q2, _⟩ := he1.get hp
      obtain ⟨q3, _⟩ := q2.imm_of
      exact ⟨w, q1, q3.keep kp0⟩) hon c4
    refine hQ (.ref D) H' [D] F9 (Rep.lst c1 c2) m1 ?_ (stp_pick c6 fun a z => ?_)
    · exact List.nodup_cons.mpr ⟨fun z => dn (List.mem_append_right _ (m2 D z)), m3 (nd_right (List.nodup_cons.mp c5).2)⟩
    · rcases List.mem_cons.mp z with z | z
      · rw [z]; exact List.mem_cons_self
      · exact List.mem_cons_of_mem _ (List.mem_append_right _ (m2 a z))
theorem snd_lcmp {own : List Nat} {t : Pat} {ik : IK} {as tests : List E} {elt : E} {x tg iter : Expr} {ifs : List Expr} {scope : Scope} {ow : List (Str × Nat)} {pos : Pos} (g : Good T Φ k sc X)
    (how : ow.map (·.2) = own) (hon : own.Nodup) (hb : BlkOk X.N X.env.scope scope ow) (hset : notSet iter = true) (hi : PI X tg iter (tI X.K ik (evos Φ T.G as))) (hat : ∀ j ∈ asgP t, j ∈ own)
    (hg : ∀ (s : Shared) (H : Hp) (C : Addr) (cl : List (Str × Addr)) (fp : List Addr), PG (X.blk s H scope (compEnvC scope cl C X.env) fp) tg (tG X.K t))
    (ht : ∀ (s : Shared) (H : Hp) (C : Addr) (cl : List (Str × Addr)) (fp : List Addr), PTs (X.blk s H scope (compEnvC scope cl C X.env) fp) ifs (tB X.K (evtests Φ T.G tests)))
    (he : ∀ (s : Shared) (H : Hp) (C : Addr) (cl : List (Str × Addr)) (fp : List Addr), PE (X.blk s H scope (compEnvC scope cl C X.env) fp) x (tO X.K (evo Φ T.G elt))) :
    PE X (.ListComp x [⟨tg, iter, ifs, 0⟩] scope pos) (tO X.K (evo Φ T.G (.cmp own t ik as tests elt))) :=
  PE.weak (pe_lc g.calm (by rw [g.N]; exact g.nd) hi hb hg ht he (notSet_of hset _)) fun σ H Q h => lcmp_reads how hon hat h

end
end Sw
set_option maxHeartbeats 1000000
/-! Sw, part 16b: comprehensions with two clauses. -/
namespace Sw
open PySem PySem.Spec PyProof.Rows L2
section
variable {K : PySem.W.Frag}
/-- what stands beside, with its objects -/
structure Frm (Fr : Hp → Prop) (R : List Addr) : Prop where
  mutf : ∀ {H}, Fr H → MutF H R
  mono : ∀ {H H'}, Fr H → Keeps H H' → (∀ a ∈ R, H' a = H a) → Fr H'
theorem frm_ors {σ : L2.St} {vs : List V} {os : List Opd} {Fd : List Addr} : Frm (fun H => ORs K H σ vs os Fd) Fd := ⟨fun h => h.mut, fun h k o => h.mono k o⟩
theorem Frm.and {A B : Hp → Prop} {R S : List Addr} (a : Frm A R) (b : Frm B S) : Frm (fun H => A H ∧ B H) (R ++ S) :=
  ⟨fun h => (a.mutf h.1).append (b.mutf h.2), fun h k o => ⟨a.mono h.1 k fun x z => o x (List.mem_append_left _ z), b.mono h.2 k fun x z => o x (List.mem_append_right _ z)⟩⟩
/-- the new list at D, what stands beside, the names -/
structure CI (K : PySem.W.Frag) (Fr : Hp → Prop) (R : List Addr) (σ : L2.St) (D : Addr) (H0 : Hp) (F0 : List Addr) (H : Hp) (acc : List P) (e : En) (F : List Addr) : Prop where
  ls : ∃ va, H D = some (.lst va) ∧ PReps K H va acc
  fr : Fr H
  env : EnvRep K H σ e F
  nd : (D :: (R ++ F)).Nodup
  st : Stp H0 F0 H (D :: (R ++ F))
  kp : Keeps H0 H
section
variable {Fr Fr' : Hp → Prop} {R S : List Addr} {σ σ' : L2.St} {D : Addr} {H0 H H' : Hp} {F0 F F' : List Addr} {acc : List P} {e e' : En}
theorem CI.same (fm : Frm Fr R) (c : CI K Fr R σ D H0 F0 H acc e F) (sm : Same H H') : CI K Fr R σ D H0 F0 H' acc e F := by
  obtain ⟨va, h1, h2⟩ := c.ls
  exact ⟨⟨va, sm _ _ h1, h2.keep (Keeps.of_same sm)⟩, fm.mono c.fr (Keeps.of_same sm) (same_off sm (fm.mutf c.fr)), c.env.same sm, c.nd, c.st.trans (Stp.of_same sm), c.kp.trans (Keeps.of_same sm)⟩
theorem CI.off (c : CI K Fr R σ D H0 F0 H acc e F) : ∀ a ∈ D :: R, a ∉ F := fun a z y => by
  have nd := List.nodup_cons.mp c.nd
  rcases List.mem_cons.mp z with z | z
  · exact nd.1 (by rw [← z]; exact List.mem_append_right _ y)
  · exact nd_off nd.2 a z y
theorem CI.mutD (fm : Frm Fr R) (c : CI K Fr R σ D H0 F0 H acc e F) : MutF H (D :: R) := fun a z => by
  obtain ⟨va, h1, _⟩ := c.ls
  rcases List.mem_cons.mp z with z | z
  · rw [z]; exact ⟨_, h1, trivial⟩
  · exact fm.mutf c.fr a z
theorem nd_three {D : Addr} {R F : List Addr} (h : (D :: R).Nodup) (n : F.Nodup) (o : ∀ a ∈ D :: R, a ∉ F) : (D :: (R ++ F)).Nodup := (nd_mk h n o : ((D :: R) ++ F).Nodup)
theorem CI.ndR (c : CI K Fr R σ D H0 F0 H acc e F) : (D :: R).Nodup := by
  have nd := List.nodup_cons.mp c.nd
  exact List.nodup_cons.mpr ⟨fun z => nd.1 (List.mem_append_left _ z), nd_left nd.2⟩
/-- the names go on -/
theorem CI.go (fm : Frm Fr R) (c : CI K Fr R σ D H0 F0 H acc e F) (he : EnvRep K H' σ' e' F') (n : F'.Nodup) (s : Stp H F H' F') : CI K Fr R σ' D H0 F0 H' acc e' F' := by
  obtain ⟨va, h1, h2⟩ := c.ls
  have kp := s.keeps c.env.mut
  have off := s.off (c.mutD fm) c.off
  have ap := s.apart (c.mutD fm) c.off
  refine ⟨⟨va, by rw [off D List.mem_cons_self]; exact h1, h2.keep kp⟩, fm.mono c.fr kp fun a z => off a (List.mem_cons_of_mem _ z), he, nd_three c.ndR n ap, ?_, c.kp.trans kp⟩
  exact (show Stp H0 F0 H ((D :: R) ++ F) from c.st).trans (s.frameL (D :: R))
/-- fewer names -/
theorem CI.less (fm : Frm Fr R) (c : CI K Fr R σ D H0 F0 H acc e F) (he : EnvRep K H σ' e' F') (n : F'.Nodup) (s : ∀ a ∈ F', a ∈ F) : CI K Fr R σ' D H0 F0 H acc e' F' :=
  c.go fm he n ((Stp.refl H F).less (fun a z => z) s)
theorem CI.wiped (fm : Frm Fr R) (c : CI K Fr R σ D H0 F0 H acc e F) (own : List Nat) : ∃ F', CI K Fr R (wipe σ own) D H0 F0 H acc (wipeE e own) F' := by
  obtain ⟨F', h1, h2, h3⟩ := c.env.wiped own
  exact ⟨F', c.less fm h1 (h3 (nd_right (List.nodup_cons.mp c.nd).2)) h2⟩
/-- one more in the list -/
theorem CI.push (fm : Frm Fr R) (c : CI K Fr R σ D H0 F0 H acc e F) {y : V} {q : P} (py : PRep K H y q) : ∃ va, H D = some (.lst va) ∧ va.length = acc.length ∧ CI K Fr R σ D H0 F0 (upd H D (.lst (va ++ [y]))) (acc ++ [q]) e F := by
  obtain ⟨va, h1, h2⟩ := c.ls
  have kpu : Keeps H (upd H D (.lst (va ++ [y]))) := upd_keeps h1
  have nd := List.nodup_cons.mp c.nd
  refine ⟨va, h1, h2.length, ⟨_, upd_same, (h2.append (.cons py .nil)).keep kpu⟩, fm.mono c.fr kpu fun a z => upd_ne fun w => nd.1 (by rw [← w]; exact List.mem_append_left _ z), c.env.mono kpu fun a z => upd_ne fun w => nd.1 (by rw [← w]; exact List.mem_append_right _ z), c.nd, ?_, c.kp.trans kpu⟩
  exact c.st.trans (lock_stp List.mem_cons_self fun b z => z)
/-- operands come beside -/
theorem CI.ops (fm : Frm Fr R) (c : CI K Fr R σ D H0 F0 H acc e F) {vs : List V} {os : List Opd} {Fs : List Addr} {τ : L2.St} (rs : ORs K H' τ vs os Fs) (he : EnvRep K H' σ' e' F') (n : (Fs ++ F').Nodup) (s : Stp H F H' (Fs ++ F')) :
    CI K (fun H => Fr H ∧ ORs K H τ vs os Fs) (R ++ Fs) σ' D H0 F0 H' acc e' F' := by
  obtain ⟨va, h1, h2⟩ := c.ls
  have kp := s.keeps c.env.mut
  have off := s.off (c.mutD fm) c.off
  have ap := s.apart (c.mutD fm) c.off
  refine ⟨⟨va, by rw [off D List.mem_cons_self]; exact h1, h2.keep kp⟩, ⟨fm.mono c.fr kp fun a z => off a (List.mem_cons_of_mem _ z), rs⟩, he, ?_, ?_, c.kp.trans kp⟩
  · rw [List.append_assoc]; exact nd_three c.ndR n ap
  · rw [List.append_assoc]; exact (show Stp H0 F0 H ((D :: R) ++ F) from c.st).trans (s.frameL (D :: R))
theorem CI.drop (h : ∀ H, Fr' H → Fr H) (c : CI K Fr' (R ++ S) σ D H0 F0 H acc e F) : CI K Fr R σ D H0 F0 H acc e F := by
  have sub : ∀ a, a ∈ D :: (R ++ F) → a ∈ D :: ((R ++ S) ++ F) := fun a z => by
    rcases List.mem_cons.mp z with z | z
    · rw [z]; exact List.mem_cons_self
    · refine List.mem_cons_of_mem _ ?_
      rcases List.mem_append.mp z with z | z
      · exact List.mem_append_left _ (List.mem_append_left _ z)
      · exact List.mem_append_right _ z
  refine ⟨c.ls, h _ c.fr, c.env, ?_, stp_pick c.st sub, c.kp⟩
  have sl : List.Sublist (D :: (R ++ F)) (D :: ((R ++ S) ++ F)) := by
    refine List.Sublist.cons_cons D ?_
    exact (List.sublist_append_left R S).append (List.Sublist.refl F)
  exact c.nd.sublist sl
end
end
theorem wipe_wipe {σ : L2.St} {own own2 : List Nat} (h : ∀ j, j ∈ own2 → j ∈ own) : wipe (wipe σ own2) own = wipe σ own := by
  apply List.ext_getElem?
  intro j
  by_cases c : j ∈ own
  · by_cases hl : j < σ.length
    · rw [wipe_hit c hl, wipe_hit c (by rw [wipe_length]; exact hl)]
    · rw [List.getElem?_eq_none (by rw [wipe_length, wipe_length]; omega), List.getElem?_eq_none (by rw [wipe_length]; omega)]
  · rw [wipe_get c, wipe_get c, wipe_get fun z => c (h j z)]
/-! the two loops -/
section
variable {J : It} {n : Nat} {G : Hp → Prop} {Y : Nat → Hp → V → Hp → Prop}
theorem lc2_out (w : Walk J n G Y) {g g1 : TG} {tt tt1 : TT} {wi1 : TI} {te : TE} {vs vs1 : List Nat} {σ : L2.St} {H1 : Hp} {D : Addr} {Qd : Hp → Prop} (Pv : Nat → Hp → Prop) (h0 : Pv 0 (upd H1 D (.lst []))) (hG : ∀ i H, i ≤ n → Pv i H → G H)
    (hs : ∀ i x H H', i < n → Pv i H → Y i H x H' → g x (wipe σ vs) H' fun σ2 H2 => wipe σ2 vs = wipe σ vs ∧ tt σ2 H2 fun b H3 =>
      if b = true then wi1 σ2 H3 fun J1 H4 => ∃ W1 : Nat → Nat → Hp → Prop, (∃ m, W1 0 m H4) ∧ ∀ j k H, W1 j k H →
        (J1.stop j H ∧ Pv (i + 1) H) ∨ (J1.go j H ∧ ∃ Nx1 : Hp → Prop, (∀ H', Nx1 H' → ∃ k', k' < k ∧ W1 (j + 1) k' H') ∧ ∀ x H', J1.yld j H x H' → g1 x (wipe σ2 vs1) H' fun σ3 H5 => wipe σ3 vs1 = wipe σ2 vs1 ∧ tt1 σ3 H5 fun b H6 =>
          if b = true then te σ3 H6 fun y H7 => ∃ acc, H7 D = some (.lst acc) ∧ acc.length < sizeLine ∧ Nx1 (upd H7 D (.lst (acc ++ [y]))) else Nx1 H6)
      else Pv (i + 1) H3) (hd : ∀ H, Pv n H → Qd H) :
    ∃ W : Nat → Nat → Hp → Prop, (∃ m, W 0 m (upd H1 D (.lst []))) ∧ ∀ i m H, W i m H →
      (J.stop i H ∧ Qd H) ∨ (J.go i H ∧ ∃ Nx : Hp → Prop, (∀ H', Nx H' → ∃ m', m' < m ∧ W (i + 1) m' H') ∧ ∀ x H', J.yld i H x H' → g x (wipe σ vs) H' fun σ2 H2 => wipe σ2 vs = wipe σ vs ∧ tt σ2 H2 fun b H3 =>
        if b = true then wi1 σ2 H3 fun J1 H4 => ∃ W1 : Nat → Nat → Hp → Prop, (∃ m, W1 0 m H4) ∧ ∀ j k H, W1 j k H →
          (J1.stop j H ∧ Nx H) ∨ (J1.go j H ∧ ∃ Nx1 : Hp → Prop, (∀ H', Nx1 H' → ∃ k', k' < k ∧ W1 (j + 1) k' H') ∧ ∀ x H', J1.yld j H x H' → g1 x (wipe σ2 vs1) H' fun σ3 H5 => wipe σ3 vs1 = wipe σ2 vs1 ∧ tt1 σ3 H5 fun b H6 =>
            if b = true then te σ3 H6 fun y H7 => ∃ acc, H7 D = some (.lst acc) ∧ acc.length < sizeLine ∧ Nx1 (upd H7 D (.lst (acc ++ [y]))) else Nx1 H6)
        else Nx H3) := by
  refine ⟨fun i m H => m = n - i ∧ i ≤ n ∧ Pv i H, ⟨n, by simp, Nat.zero_le _, h0⟩, ?_⟩
  rintro i m H ⟨rfl, hi, p⟩
  have q := hG i H hi p
  by_cases hlt : i < n
  · refine .inr ⟨w.goes i H hlt q, Pv (i + 1), fun H' p' => ⟨n - (i + 1), by omega, rfl, hlt, p'⟩, fun x H' y => hs i x H H' hlt p (w.yields i H x H' hlt q y)⟩
  · have e : i = n := by omega
    subst e
    exact .inl ⟨w.stops H q, hd H p⟩
theorem lc2_in (w : Walk J n G Y) {g : TG} {tt : TT} {te : TE} {vs : List Nat} {σ : L2.St} {H1 : Hp} {D : Addr} {Qd : Hp → Prop} (Pv : Nat → Hp → Prop) (h0 : Pv 0 H1) (hG : ∀ i H, i ≤ n → Pv i H → G H)
    (hs : ∀ i x H H', i < n → Pv i H → Y i H x H' → g x (wipe σ vs) H' fun σ2 H2 => wipe σ2 vs = wipe σ vs ∧ tt σ2 H2 fun b H3 =>
      if b = true then te σ2 H3 fun y H4 => ∃ acc, H4 D = some (.lst acc) ∧ acc.length < sizeLine ∧ Pv (i + 1) (upd H4 D (.lst (acc ++ [y]))) else Pv (i + 1) H3) (hd : ∀ H, Pv n H → Qd H) :
    ∃ W : Nat → Nat → Hp → Prop, (∃ m, W 0 m H1) ∧ ∀ i m H, W i m H →
      (J.stop i H ∧ Qd H) ∨ (J.go i H ∧ ∃ Nx : Hp → Prop, (∀ H', Nx H' → ∃ m', m' < m ∧ W (i + 1) m' H') ∧ ∀ x H', J.yld i H x H' → g x (wipe σ vs) H' fun σ2 H2 => wipe σ2 vs = wipe σ vs ∧ tt σ2 H2 fun b H3 =>
        if b = true then te σ2 H3 fun y H4 => ∃ acc, H4 D = some (.lst acc) ∧ acc.length < sizeLine ∧ Nx (upd H4 D (.lst (acc ++ [y]))) else Nx H3) := by
  refine ⟨fun i m H => m = n - i ∧ i ≤ n ∧ Pv i H, ⟨n, by simp, Nat.zero_le _, h0⟩, ?_⟩
  rintro i m H ⟨rfl, hi, p⟩
  have q := hG i H hi p
  by_cases hlt : i < n
  · refine .inr ⟨w.goes i H hlt q, Pv (i + 1), fun H' p' => ⟨n - (i + 1), by omega, rfl, hlt, p'⟩, fun x H' y => hs i x H H' hlt p (w.yields i H x H' hlt q y)⟩
  · have e : i = n := by omega
    subst e
    exact .inl ⟨w.stops H q, hd H p⟩
end
section
variable {T : Tab} {Φ : CallS} {k : Nat} {sc : Scope} {X : Cx}
def stepI (Φ : CallS) (G : List P) (own2 : List Nat) (t2 : Pat) (tests2 : List E) (elt : E) (os : List Opd) (e1 : En) (os2 : List Opd) (e5 : En) (p2 : P) (acc2 : List P) (e6 : En) : Option (List P × En) :=
  (bindP t2 p2 e6).bind fun e7 => (evtests Φ G tests2 e7).bind fun b2 =>
    if b2.1 then (evo Φ G elt b2.2).bind fun x => (immO x.1).bind fun q => if lockOk os2 e5 x.2 ∧ lockOk os e1 x.2 ∧ acc2.length < line then some (acc2 ++ [q], wipeE x.2 own2) else none
    else if lockOk os2 e5 b2.2 ∧ lockOk os e1 b2.2 then some (acc2, wipeE b2.2 own2) else none
def stepO (Φ : CallS) (G : List P) (own own2 : List Nat) (t : Pat) (tests : List E) (t2 : Pat) (k2 : IK) (as2 tests2 : List E) (elt : E) (os : List Opd) (e1 : En) (p : P) (acc : List P) (e2 : En) : Option (List P × En) :=
  (bindP t p e2).bind fun e3 => (evtests Φ G tests e3).bind fun b =>
    if b.1 then (evos Φ G as2 b.2).bind fun r2 => (resvs r2.2 r2.1).bind fun ds2 => (items k2 ds2).bind fun ps2 =>
      if freeOf r2.1 own ∧ lockOk os e1 r2.2 then (compL (stepI Φ G own2 t2 tests2 elt os e1 r2.1 r2.2) ps2 acc (wipeE r2.2 own2)).bind fun z => some (z.1, wipeE z.2 own)
      else none
    else if lockOk os e1 b.2 then some (acc, wipeE b.2 own) else none
theorem evo_cmp2 {own own2 : List Nat} {t t2 : Pat} {ik ik2 : IK} {as as2 tests tests2 : List E} {elt : E} {e e2 : En} {r : Opd} (h : evo Φ T.G (.cmp2 own own2 t ik as tests t2 ik2 as2 tests2 elt) e = some (r, e2)) :
    ∃ os e1 ds ps acc e9, evos Φ T.G as e = some (os, e1) ∧ resvs e1 os = some ds ∧ items ik ds = some ps ∧ freeOf os own = true ∧ compL (stepO Φ T.G own own2 t tests t2 ik2 as2 tests2 elt os e1) ps [] (wipeE e1 own) = some (acc, e9) ∧ r = .tmp (.lst acc) ∧ e2 = putBack e9 e1 own := by
  simp only [evo] at h
  obtain ⟨⟨os, e1⟩, h1, h⟩ := bind_some h
  obtain ⟨ds, h2, h⟩ := bind_some h
  obtain ⟨ps, h3, h⟩ := bind_some h
  split at h
  · rename_i c
    obtain ⟨⟨acc, e9⟩, h4, h⟩ := bind_some h
    cases h
    exact ⟨os, e1, ds, ps, acc, e9, h1, h2, h3, c, h4, rfl, rfl⟩
  · cases h
theorem drop_at {α : Type} {ps : List α} {i : Nat} {p : α} (h : ps[i]? = some p) : ps.drop i = p :: ps.drop (i + 1) := by
  obtain ⟨hlt, e⟩ := List.getElem?_eq_some_iff.mp h
  rw [List.drop_eq_getElem_cons hlt, e]
theorem free_sub {os : List Opd} {own own2 : List Nat} (h : freeOf os own = true) (hs : ∀ j, j ∈ own2 → j ∈ own) : freeOf os own2 = true := by
  unfold freeOf
  rw [List.all_eq_true]
  intro o ho
  cases o with
  | tmp d => rfl
  | slot i =>
    have := free_not h i ho
    simp only [Bool.not_eq_true', List.contains_eq_mem, decide_eq_false_iff_not]
    exact fun z => this (hs i z)
theorem lcmp2_reads {own own2 : List Nat} {t t2 : Pat} {ik ik2 : IK} {as as2 tests tests2 : List E} {elt : E} {ow : List (Str × Nat)} {σ : L2.St} {H : Hp} {Q : VK} (how : ow.map (·.2) = own) (hon : own.Nodup) (hat : ∀ j ∈ asgP t, j ∈ own) (hat2 : ∀ j ∈ asgP t2, j ∈ own2) (hsub : ∀ j, j ∈ own2 → j ∈ own)
    (h : tO X.K (evo Φ T.G (.cmp2 own own2 t ik as tests t2 ik2 as2 tests2 elt)) σ H Q) :
    tLc2 (tI X.K ik (evos Φ T.G as)) (tG X.K t) (tB X.K (evtests Φ T.G tests)) (tI X.K ik2 (evos Φ T.G as2)) (tG X.K t2) (tB X.K (evtests Φ T.G tests2)) (tO X.K (evo Φ T.G elt)) (ow.map (·.2)) own2 σ H Q := by
  subst how
  obtain ⟨e, F, o, e', he0, n0, hf, hQ⟩ := h
  obtain ⟨os, e1, ds, ps, accF, e9, h1, h2, h3, hfree, hL, rfl, rfl⟩ := evo_cmp2 hf
  refine ⟨e, F, os, e1, ds, ps, he0, n0, h1, h2, h3, fun J vs H1 Fd F1 ors he1 n1 s1 walk => ?_⟩
  intro D hD
  generalize hown : ow.map (·.2) = own at *
  have orsW : ORs X.K H1 (wipe σ own) vs os Fd := ors.slots fun i z => wipe_get (free_not hfree i z)
  obtain ⟨FW, w1, w2, w3⟩ := he1.wiped own
  have nW : (Fd ++ FW).Nodup := nd_mk (nd_left n1) (w3 (nd_right n1)) fun a z y => nd_off n1 a z (w2 a y)
  have sW : Stp H F H1 (Fd ++ FW) := stp_pick s1 fun a z => (List.mem_append.mp z).elim (fun z => List.mem_append_left _ z) fun z => List.mem_append_right _ (w2 a z)
  have smD : Same H1 (upd H1 D (.lst [])) := same_new hD
  obtain ⟨sD, nD⟩ := lay_list (xs := []) hD (orsW.mut.append w1.mut) nW
  have fm : Frm (fun H => ORs X.K H (wipe σ own) vs os Fd) Fd := frm_ors
  have start : CI X.K (fun H => ORs X.K H (wipe σ own) vs os Fd) Fd (wipe σ own) D H F (upd H1 D (.lst [])) [] (wipeE e1 own) FW :=
    ⟨⟨[], upd_same, .nil⟩, orsW.mono (Keeps.of_same smD) (same_off smD orsW.mut), w1.same smD, nD, sW.trans sD, (sW.keeps he0.mut).trans (Keeps.of_same smD)⟩
  refine lc2_out walk (fun i H' => ∃ acc ei Fi, CI X.K (fun H => ORs X.K H (wipe σ own) vs os Fd) Fd (wipe σ own) D H F H' acc ei Fi ∧ lockOk os e1 ei = true ∧ Keeps H1 H' ∧ compL (stepO Φ T.G own own2 t tests t2 ik2 as2 tests2 elt os e1) (ps.drop i) acc ei = some (accF, e9))
    ⟨[], _, _, start, lock_wipe hfree, Keeps.of_same smD, by rw [List.drop_zero]; exact hL⟩ (fun i H' hi hp => ?_) (fun i y H2 H3 hi hp hy => ?_) (fun H' hp => ?_)
  · obtain ⟨acc, ei, Fi, c, lk, _, _⟩ := hp
    exact resvs_ok c.env c.fr (by rw [lock_get lk]; exact h2)
  · obtain ⟨acc, ei, Fi, c, lk, kp0, hl⟩ := hp
    obtain ⟨sm, p, hp1, hp2⟩ := hy
    rw [drop_at hp1] at hl
    unfold compL at hl
    obtain ⟨⟨acc', e3⟩, hs, hl⟩ := bind_some hl
    unfold stepO at hs
    obtain ⟨eb, hs1, hs⟩ := bind_some hs
    obtain ⟨⟨b, e4⟩, hs2, hs⟩ := bind_some hs
    have c3 := c.same fm sm
    have nFi := nd_right (List.nodup_cons.mp c3.nd).2
    refine ⟨ei, Fi, p, eb, c3.env, nFi, hp2, hs1, fun σ2 F2 g1 g2 g3 g4 => ⟨wipe_agr g4 hat, eb, F2, b, e4, g1, g2, hs2, fun H4 F4 k1 k2 k3 => ?_⟩⟩
    have hwp : wipe σ2 own = wipe σ own := wipe_agr g4 hat
    have c4 := (c3.less fm g1 g2 g3).go fm k1 k2 k3
    have kp4 : Keeps H1 H4 := (kp0.trans (Keeps.of_same sm)).trans (k3.keeps g1.mut)
    cases b with
    | false =>
      dsimp only
      rw [if_neg Bool.false_ne_true] at hs ⊢
      split at hs
      · rename_i lk2
        cases hs
        obtain ⟨F5, c5⟩ := c4.wiped fm own
        rw [hwp] at c5
        exact ⟨acc, _, F5, c5, lock_trans lk2 (lock_wipe hfree), kp4, hl⟩
      · cases hs
    | true =>
      dsimp only
      rw [if_pos rfl] at hs ⊢
      obtain ⟨⟨os2, e5⟩, hs3, hs⟩ := bind_some hs
      obtain ⟨ds2, hs4, hs⟩ := bind_some hs
      obtain ⟨ps2, hs5, hs⟩ := bind_some hs
      split at hs
      · rename_i lk2
        obtain ⟨fr2, lk2⟩ := lk2
        obtain ⟨⟨acc2F, e8⟩, hs6, hs⟩ := bind_some hs
        cases hs
        refine ⟨e4, F4, os2, e5, ds2, ps2, k1, k2, hs3, hs4, hs5, fun J1 vs2 H5 Fs F5 rs2 he5 n5 s5 walk1 => ?_⟩
        have fr3 := free_sub fr2 hsub
        have fr4 := free_sub hfree hsub
        have rs2W : ORs X.K H5 (wipe σ2 own2) vs2 os2 Fs := rs2.slots fun i z => wipe_get (free_not fr3 i z)
        have c5 := c4.ops fm rs2W he5 n5 s5
        have fm2 : Frm (fun H => ORs X.K H (wipe σ own) vs os Fd ∧ ORs X.K H (wipe σ2 own2) vs2 os2 Fs) (Fd ++ Fs) := fm.and frm_ors
        obtain ⟨F6, c6⟩ := c5.wiped fm2 own2
        have kp5 : Keeps H1 H5 := kp4.trans (s5.keeps k1.mut)
        refine lc2_in walk1 (fun j H' => ∃ acc2 ej Fj, CI X.K (fun H => ORs X.K H (wipe σ own) vs os Fd ∧ ORs X.K H (wipe σ2 own2) vs2 os2 Fs) (Fd ++ Fs) (wipe σ2 own2) D H F H' acc2 ej Fj ∧ lockOk os2 e5 ej = true ∧ lockOk os e1 ej = true ∧ Keeps H1 H' ∧ compL (stepI Φ T.G own2 t2 tests2 elt os e1 os2 e5) (ps2.drop j) acc2 ej = some (acc2F, e8))
          ⟨acc, _, F6, c6, lock_wipe fr3, lock_trans lk2 (lock_wipe fr4), kp5, by rw [List.drop_zero]; exact hs6⟩ (fun j H' hj hp => ?_) (fun j y6 H6 H7 hj hp hy6 => ?_) (fun H' hp => ?_)
        · obtain ⟨acc2, ej, Fj, c, lk, _, _, _⟩ := hp
          exact resvs_ok c.env c.fr.2 (by rw [lock_get lk]; exact hs4)
        · obtain ⟨acc2, ej, Fj, c, lkA, lkB, kp6, hl6⟩ := hp
          obtain ⟨sm6, p6, hq1, hq2⟩ := hy6
          rw [drop_at hq1] at hl6
          unfold compL at hl6
          obtain ⟨⟨acc7, e7⟩, ht, hl6⟩ := bind_some hl6
          unfold stepI at ht
          obtain ⟨ec, ht1, ht⟩ := bind_some ht
          obtain ⟨⟨b6, ed⟩, ht2, ht⟩ := bind_some ht
          have c7 := c.same fm2 sm6
          have nFj := nd_right (List.nodup_cons.mp c7.nd).2
          refine ⟨ej, Fj, p6, ec, c7.env, nFj, hq2, ht1, fun σ3 F7 g1 g2 g3 g4 => ⟨wipe_agr g4 hat2, ec, F7, b6, ed, g1, g2, ht2, fun H8 F8 k1 k2 k3 => ?_⟩⟩
          have hwp3 : wipe σ3 own2 = wipe σ2 own2 := wipe_agr g4 hat2
          have c8 := (c7.less fm2 g1 g2 g3).go fm2 k1 k2 k3
          have kp8 : Keeps H1 H8 := (kp6.trans (Keeps.of_same sm6)).trans (k3.keeps g1.mut)
          cases b6 with
          | false =>
            dsimp only
            rw [if_neg Bool.false_ne_true] at ht ⊢
            split at ht
            · rename_i lk3
              cases ht
              obtain ⟨F9, c9⟩ := c8.wiped fm2 own2
              rw [hwp3] at c9
              exact ⟨acc2, _, F9, c9, lock_trans lk3.1 (lock_wipe fr3), lock_trans lk3.2 (lock_wipe fr4), kp8, hl6⟩
            · cases ht
          | true =>
            dsimp only
            rw [if_pos rfl] at ht ⊢
            obtain ⟨⟨z, ee⟩, ht3, ht⟩ := bind_some ht
            obtain ⟨q, ht4, ht⟩ := bind_some ht
            split at ht
            · rename_i lk3
              obtain ⟨lk3, lk4, room⟩ := lk3
              cases ht
              refine tO_mk k1 k2 ht3 fun y9 H9 Fy F9 oy he9 n9 s9 => ?_
              obtain ⟨py, rfl⟩ := immO_ok oy ht4
              rw [List.nil_append] at n9 s9
              have c9 := c8.go fm2 he9 n9 s9
              obtain ⟨va, v1, v2, c10⟩ := c9.push fm2 py
              obtain ⟨F11, c11⟩ := c10.wiped fm2 own2
              rw [hwp3] at c11
              refine ⟨va, v1, by rw [v2]; exact lt_line room, acc2 ++ [q], _, F11, c11, lock_trans lk3 (lock_wipe fr3), lock_trans lk4 (lock_wipe fr4), ?_, hl6⟩
              exact (kp8.trans (s9.keeps k1.mut)).trans (upd_keeps v1)
            · cases ht
        · obtain ⟨acc2, ej, Fj, c, lkA, lkB, kp6, hl6⟩ := hp
          rw [List.drop_length] at hl6
          unfold compL at hl6
          cases hl6
          have cD : CI X.K (fun H => ORs X.K H (wipe σ own) vs os Fd) Fd (wipe σ2 own2) D H F H' acc2F e8 Fj := CI.drop (fun _ z => z.1) c
          obtain ⟨F12, c12⟩ := cD.wiped fm own
          rw [wipe_wipe hsub, hwp] at c12
          exact ⟨acc2F, _, F12, c12, lock_trans lkB (lock_wipe hfree), kp6, hl⟩
      · cases hs
  · obtain ⟨acc, ei, Fi, c, lk, kp0, hl⟩ := hp
    rw [List.drop_length] at hl
    unfold compL at hl
    cases hl
    obtain ⟨va, c1, c2⟩ := c.ls
    have dn := (List.nodup_cons.mp c.nd).1
    obtain ⟨F9, m1, m2, m3⟩ := EnvRep.put (e0 := e1) (fun i p hp => by
      obtain ⟨w, Fi', q1, q2, _⟩ := he1.get hp
      obtain ⟨q3, _⟩ := q2.imm_of
      exact ⟨w, q1, q3.keep kp0⟩) hon c.env
    refine hQ (.ref D) H' [D] F9 (Rep.lst c1 c2) m1 ?_ (stp_pick c.st fun a z => ?_)
    · exact List.nodup_cons.mpr ⟨fun z => dn (List.mem_append_right _ (m2 D z)), m3 (nd_right (List.nodup_cons.mp c.nd).2)⟩
    · rcases List.mem_cons.mp z with z | z
      · rw [z]; exact List.mem_cons_self
      · exact List.mem_cons_of_mem _ (List.mem_append_right _ (m2 a z))
theorem snd_lcmp2 {own own2 : List Nat} {t t2 : Pat} {ik ik2 : IK} {as as2 tests tests2 : List E} {elt : E} {x tg iter tg1 iter1 : Expr} {ifs ifs1 : List Expr} {scope : Scope} {ow : List (Str × Nat)} {pos : Pos} (g : Good T Φ k sc X)
    (how : ow.map (·.2) = own) (hon : own.Nodup) (hb : BlkOk X.N X.env.scope scope ow) (hset : notSet iter = true) (hset1 : notSet iter1 = true) (hi : PI X tg iter (tI X.K ik (evos Φ T.G as))) (hat : ∀ j ∈ asgP t, j ∈ own) (hat2 : ∀ j ∈ asgP t2, j ∈ own2) (hsub : ∀ j, j ∈ own2 → j ∈ own)
    (hg : ∀ (s : Shared) (H : Hp) (C : Addr) (cl : List (Str × Addr)) (fp : List Addr), PG (X.blk s H scope (compEnvC scope cl C X.env) fp) tg (tG X.K t))
    (ht : ∀ (s : Shared) (H : Hp) (C : Addr) (cl : List (Str × Addr)) (fp : List Addr), PTs (X.blk s H scope (compEnvC scope cl C X.env) fp) ifs (tB X.K (evtests Φ T.G tests)))
    (hi1 : ∀ (s : Shared) (H : Hp) (C : Addr) (cl : List (Str × Addr)) (fp : List Addr), PI (X.blk s H scope (compEnvC scope cl C X.env) fp) tg1 iter1 (tI X.K ik2 (evos Φ T.G as2)))
    (hg1 : ∀ (s : Shared) (H : Hp) (C : Addr) (cl : List (Str × Addr)) (fp : List Addr), PG (X.blk s H scope (compEnvC scope cl C X.env) fp) tg1 (tG X.K t2))
    (ht1 : ∀ (s : Shared) (H : Hp) (C : Addr) (cl : List (Str × Addr)) (fp : List Addr), PTs (X.blk s H scope (compEnvC scope cl C X.env) fp) ifs1 (tB X.K (evtests Φ T.G tests2)))
    (he : ∀ (s : Shared) (H : Hp) (C : Addr) (cl : List (Str × Addr)) (fp : List Addr), PE (X.blk s H scope (compEnvC scope cl C X.env) fp) x (tO X.K (evo Φ T.G elt))) :
    PE X (.ListComp x [⟨tg, iter, ifs, 0⟩, ⟨tg1, iter1, ifs1, 0⟩] scope pos) (tO X.K (evo Φ T.G (.cmp2 own own2 t ik as tests t2 ik2 as2 tests2 elt))) :=
  PE.weak (pe_lc2 g.calm (by rw [g.N]; exact g.nd) hi hb (vs1 := own2) (by rw [how]; exact hsub) hg ht hi1 hg1 ht1 he (notSet_of hset _) (notSet_of hset1)) fun σ H Q h => lcmp2_reads how hon hat hat2 hsub h
end
end Sw
set_option maxHeartbeats 1000000
/-! Sw, part 16c: chains of three, new dicts, lists of ranges. -/
namespace Sw
open PySem PySem.Spec PyProof.Rows L2
section
variable {X : Cx} {a b c d : Expr} {ta tb tc td : TE} {pos : Pos}
def tChain3 (r r' r'' : R2) (ta tb tc td : TE) : TE := fun σ H Q => ta σ H fun x H1 => tb σ H1 fun y H2 => r x y H2 fun z H3 => ∃ k, z = .bl k ∧
  (if k = true then tc σ H3 fun w' H4 => r' y w' H4 fun z2 H5 => ∃ k2, z2 = .bl k2 ∧ (if k2 = true then td σ H5 fun w2 H6 => r'' w' w2 H6 Q else Q (.bl false) H5) else Q (.bl false) H3)
theorem pe_chain3 {op op' op'' : CmpOp} {r r' r'' : R2} (ho : OpR X (compareOp op) r) (ho' : OpR X (compareOp op') r') (ho2 : OpR X (compareOp op'') r'') (ha : PE X a ta) (hb : PE X b tb) (hc : PE X c tc) (hd : PE X d td)
    (hm : lastMarks [op, op', op''] [b, c, d] = false) : PE X (.Compare a [op, op', op''] [b, c, d] pos) (tChain3 r r' r'' ta tb tc td) := by
  refine ⟨fun pins s σ H Q I h => ?_⟩
  refine Compare_chain (thn (ha.run pins s σ H _ I h) fun v s1 ⟨x, H1, I1, r1, q1⟩ => chain_link (thn (hb.run pins s1 σ H1 _ I1 q1) fun u s2 ⟨y, H2, I2, r2, q2⟩ =>
    thn (ho pins s2 σ H2 x y v u _ I2 r1 r2 q2) fun d s3 ⟨z, H3, I3, r3, k, e, q3⟩ => ?_)) hm
  subst e
  cases r3
  refine wpAny_truthy_bool ?_
  cases k with
  | false => exact ite_ff ⟨.bl false, H3, I3, rfl, q3⟩
  | true =>
    refine ite_tt (chain_link (thn (hc.run pins s3 σ H3 _ I3 q3) fun w' s4 ⟨z', H4, I4, r4, q4⟩ => thn (ho' pins s4 σ H4 y z' u w' _ I4 r2 r4 q4) fun d' s5 ⟨z5, H5, I5, r5, k2, e2, q5⟩ => ?_))
    subst e2
    cases r5
    refine wpAny_truthy_bool ?_
    cases k2 with
    | false => exact ite_ff ⟨.bl false, H5, I5, rfl, q5⟩
    | true => exact ite_tt (chain_last (thn (hd.run pins s5 σ H5 _ I5 q5) fun w6 s6 ⟨z6, H6, I6, r6, q6⟩ => ho2 pins s6 σ H6 z' z6 w' w6 Q I6 r4 r6 q6))
theorem pt_chain3 {op op' op'' : CmpOp} {r r' r'' : R2} (ho : OpR X (compareOp op) r) (ho' : OpR X (compareOp op') r') (ho2 : OpR X (compareOp op'') r'') (ha : PE X a ta) (hb : PE X b tb) (hc : PE X c tc) (hd : PE X d td)
    (hm : lastMarks [op, op', op''] [b, c, d] = false) : PT X (.Compare a [op, op', op''] [b, c, d] pos) (tTest (tChain3 r r' r'' ta tb tc td)) := by
  refine ⟨fun pins s σ H Q I h => ?_⟩
  refine isTrue_chain (thn (ha.run pins s σ H _ I h) fun v s1 ⟨x, H1, I1, r1, q1⟩ => test_link (thn (hb.run pins s1 σ H1 _ I1 q1) fun u s2 ⟨y, H2, I2, r2, q2⟩ =>
    thn (ho pins s2 σ H2 x y v u _ I2 r1 r2 q2) fun d s3 ⟨z, H3, I3, r3, k, e, q3⟩ => ?_)) hm
  subst e
  cases r3
  refine wpAny_truthy_bool ?_
  cases k with
  | false =>
    obtain ⟨k', e', q'⟩ := q3
    cases e'
    exact ite_ff ⟨H3, I3, q'⟩
  | true =>
    refine ite_tt (test_link (thn (hc.run pins s3 σ H3 _ I3 q3) fun w' s4 ⟨z', H4, I4, r4, q4⟩ => thn (ho' pins s4 σ H4 y z' u w' _ I4 r2 r4 q4) fun d' s5 ⟨z5, H5, I5, r5, k2, e2, q5⟩ => ?_))
    subst e2
    cases r5
    refine wpAny_truthy_bool ?_
    cases k2 with
    | false =>
      obtain ⟨k', e', q'⟩ := q5
      cases e'
      exact ite_ff ⟨H5, I5, q'⟩
    | true =>
      refine ite_tt (test_last (thn (hd.run pins s5 σ H5 _ I5 q5) fun w6 s6 ⟨z6, H6, I6, r6, q6⟩ => thn (ho2 pins s6 σ H6 z' z6 w' w6 _ I6 r4 r6 q6) fun d7 s7 ⟨z7, H7, I7, r7, k3, e3, q7⟩ => ?_))
      subst e3
      cases r7
      exact wpAny_truthy_bool ⟨H7, I7, q7⟩
end
theorem last3_of {p q r : CmpOp} {x y z : Expr} (h : notSet z = true) : lastMarks [p, q, r] [x, y, z] = false := by
  cases z <;> first | rfl | cases h
section
variable {T : Tab} {Φ : CallS} {k : Nat} {sc : Scope} {X : Cx}
theorem mid_reads {o : Op} {p : CmpOp} {c : E} {σ : L2.St} {H0 H : Hp} {F0 Fy F : List Addr} {vy : V} {y z : Opd} {e e3 : En} {ds : List D} {b : Bool} {R : Bool → V → Hp → Prop} (hp : cmpOf o = some p) (oy : ORep X.K H σ vy y Fy) (he : EnvRep X.K H σ e F) (n : (Fy ++ F).Nodup) (s : Stp H0 F0 H (Fy ++ F))
    (h1 : evo Φ T.G c e = some (z, e3)) (h2 : resvs e3 [y, z] = some ds) (h3 : opSem o ds = some (.imm (.bl b)))
    (cont : ∀ vz H5 Fz F5, ORep X.K H5 σ vz z Fz → EnvRep X.K H5 σ e3 F5 → (Fz ++ F5).Nodup → Stp H0 F0 H5 (Fz ++ F5) → R b vz H5) :
    tO X.K (evo Φ T.G c) σ H fun w' H4 => rCmpO X.K o vy w' H4 fun z2 H5 => ∃ k, z2 = .bl k ∧ R k w' H5 := by
  refine tO_mk he (nd_right n) h1 fun vz H4 Fz F4 oz he4 n4 s4 => ?_
  have oy4 := oy.frame he n s4
  obtain ⟨s5, n5⟩ := stp_two s n oy.mut s4 n4
  have pk := resvs_ok he4 (.cons oy4 (.cons oz .nil)) h2
  obtain ⟨u, v, eq, q1⟩ := cmp_ok hp [vy, vz] ds H4 (fun z2 H5 => ∃ k, z2 = .bl k ∧ R k vz H5) (.imm (.bl b)) pk h3 fun z2 H5 F5 sm rp fr n6 => by
    obtain rfl := rp.bl_of
    refine ⟨b, rfl, cont vz H5 Fz F4 (oz.mono (Keeps.of_same sm) (same_off sm oz.mut)) (he4.same sm) n4 ?_⟩
    exact (s5.less (fun a z => z) fun a z => List.mem_append_right _ z).trans (Stp.of_same sm)
  cases eq
  exact q1
theorem last_reads {o : Op} {p : CmpOp} {c : E} {σ : L2.St} {H0 H : Hp} {F0 Fy F : List Addr} {vy : V} {y z : Opd} {e e3 : En} {ds : List D} {d : D} {Q : VK} (hp : cmpOf o = some p) (oy : ORep X.K H σ vy y Fy) (he : EnvRep X.K H σ e F) (n : (Fy ++ F).Nodup) (s : Stp H0 F0 H (Fy ++ F))
    (h1 : evo Φ T.G c e = some (z, e3)) (h2 : resvs e3 [y, z] = some ds) (h3 : opSem o ds = some d)
    (hQ : ∀ v H' Fd F', ORep X.K H' σ v (.tmp d) Fd → EnvRep X.K H' σ e3 F' → (Fd ++ F').Nodup → Stp H0 F0 H' (Fd ++ F') → Q v H') :
    tO X.K (evo Φ T.G c) σ H fun w' H4 => rCmpO X.K o vy w' H4 Q := by
  refine tO_mk he (nd_right n) h1 fun vz H4 Fz F4 oz he4 n4 s4 => ?_
  have oy4 := oy.frame he n s4
  obtain ⟨s5, n5⟩ := stp_two s n oy.mut s4 n4
  have rs : ORs X.K H4 σ [vy, vz] [y, z] (Fy ++ (Fz ++ [])) := .cons oy4 (.cons oz .nil)
  obtain ⟨u, v, e, q⟩ := ops_end (cmp_ok hp) rs he4 (by rw [List.append_nil, List.append_assoc]; exact n5) (by rw [List.append_nil, List.append_assoc]; exact s5) h2 h3 hQ
  cases e
  exact q
theorem evo_chain3 {o1 o2 o3 : Op} {a b c d : E} {e e9 : En} {r : Opd} (h : evo Φ T.G (.chain3 o1 o2 o3 a b c d) e = some (r, e9)) : ∃ x y e1 e2 ds k, evo Φ T.G a e = some (x, e1) ∧ evo Φ T.G b e1 = some (y, e2) ∧ resvs e2 [x, y] = some ds ∧ opSem o1 ds = some (.imm (.bl k)) ∧
    ((k = false ∧ r = .tmp (.imm (.bl false)) ∧ e9 = e2) ∨ (k = true ∧ ∃ z e3 ds2 k2, evo Φ T.G c e2 = some (z, e3) ∧ resvs e3 [y, z] = some ds2 ∧ opSem o2 ds2 = some (.imm (.bl k2)) ∧
      ((k2 = false ∧ r = .tmp (.imm (.bl false)) ∧ e9 = e3) ∨ (k2 = true ∧ ∃ w ds3 d3, evo Φ T.G d e3 = some (w, e9) ∧ resvs e9 [z, w] = some ds3 ∧ opSem o3 ds3 = some d3 ∧ r = .tmp d3)))) := by
  simp only [evo] at h
  obtain ⟨⟨x, e1⟩, h1, h⟩ := bind_some h
  obtain ⟨⟨y, e2⟩, h2, h⟩ := bind_some h
  obtain ⟨ds, h3, h⟩ := bind_some h
  obtain ⟨r1, h4, h⟩ := bind_some h
  split at h
  · obtain ⟨⟨z, e3⟩, h5, h⟩ := bind_some h
    obtain ⟨ds2, h6, h⟩ := bind_some h
    obtain ⟨r2, h7, h⟩ := bind_some h
    split at h
    · obtain ⟨⟨w, e4⟩, h8, h⟩ := bind_some h
      obtain ⟨ds3, h9, h⟩ := bind_some h
      obtain ⟨d3, h10, h⟩ := bind_some h
      cases h
      exact ⟨x, y, e1, e2, ds, true, h1, h2, h3, h4, .inr ⟨rfl, z, e3, ds2, true, h5, h6, h7, .inr ⟨rfl, w, ds3, d3, h8, h9, h10, rfl⟩⟩⟩
    · cases h
      exact ⟨x, y, e1, e2, ds, true, h1, h2, h3, h4, .inr ⟨rfl, z, _, ds2, false, h5, h6, h7, .inl ⟨rfl, rfl, rfl⟩⟩⟩
    · cases h
  · cases h
    exact ⟨x, y, e1, _, ds, false, h1, h2, h3, h4, .inl ⟨rfl, rfl, rfl⟩⟩
  · cases h
theorem chain3_reads {o1 o2 o3 : Op} {p q r : CmpOp} {a b c d : E} {σ : L2.St} {H : Hp} {Q : VK} (hp : cmpOf o1 = some p) (hq : cmpOf o2 = some q) (hr : cmpOf o3 = some r) (h : tO X.K (evo Φ T.G (.chain3 o1 o2 o3 a b c d)) σ H Q) :
    tChain3 (rCmpO X.K o1) (rCmpO X.K o2) (rCmpO X.K o3) (tO X.K (evo Φ T.G a)) (tO X.K (evo Φ T.G b)) (tO X.K (evo Φ T.G c)) (tO X.K (evo Φ T.G d)) σ H Q := by
  obtain ⟨e, F, o, e', he, n, hf, hQ⟩ := h
  obtain ⟨x, y, e1, e2, ds, k1, h1, h2, h3, h4, h5⟩ := evo_chain3 hf
  refine tO_mk he n h1 fun vx H1 Fx F1 ox he1 n1 s1 => ?_
  refine mid_reads (R := fun k vy H3 => if k = true then tO X.K (evo Φ T.G c) σ H3 fun w' H4 => rCmpO X.K o2 vy w' H4 fun z2 H5 => ∃ k2, z2 = .bl k2 ∧ (if k2 = true then tO X.K (evo Φ T.G d) σ H5 fun w2 H6 => rCmpO X.K o3 w' w2 H6 Q else Q (.bl false) H5) else Q (.bl false) H3)
    hp ox he1 n1 s1 h2 h3 h4 fun vy H3 Fy F3 oy he3 n3 s3 => ?_
  rcases h5 with ⟨rfl, rfl, rfl⟩ | ⟨rfl, z, e3, ds2, k2, g1, g2, g3, g4⟩
  · rw [if_neg Bool.false_ne_true]
    exact hQ _ H3 [] F3 (Rep.imm (.bl _)) he3 (nd_right n3) (stp_drop s3)
  rw [if_pos rfl]
  refine mid_reads (R := fun k2 w' H5 => if k2 = true then tO X.K (evo Φ T.G d) σ H5 fun w2 H6 => rCmpO X.K o3 w' w2 H6 Q else Q (.bl false) H5) hq oy he3 n3 s3 g1 g2 g3 fun vz H5 Fz F5 oz he5 n5 s5 => ?_
  rcases g4 with ⟨rfl, rfl, rfl⟩ | ⟨rfl, w, ds3, d3, m1, m2, m3, rfl⟩
  · rw [if_neg Bool.false_ne_true]
    exact hQ _ H5 [] F5 (Rep.imm (.bl _)) he5 (nd_right n5) (stp_drop s5)
  rw [if_pos rfl]
  exact last_reads hr oz he5 n5 s5 m1 m2 m3 hQ
theorem snd_chain3 {o1 o2 o3 : Op} {p q r : CmpOp} {a b c d : E} {x y z w : Expr} {pos : Pos} (g : Good T Φ k sc X) (hp : cmpOf o1 = some p) (hq : cmpOf o2 = some q) (hr : cmpOf o3 = some r) (hm : lastMarks [p, q, r] [y, z, w] = false)
    (ha : PE X x (tO X.K (evo Φ T.G a))) (hb : PE X y (tO X.K (evo Φ T.G b))) (hc : PE X z (tO X.K (evo Φ T.G c))) (hd : PE X w (tO X.K (evo Φ T.G d))) : PE X (.Compare x [p, q, r] [y, z, w] pos) (tO X.K (evo Φ T.G (.chain3 o1 o2 o3 a b c d))) :=
  PE.weak (pe_chain3 (cmp_rule g.hu hp) (cmp_rule g.hu hq) (cmp_rule g.hu hr) ha hb hc hd hm) fun σ H Q h => chain3_reads hp hq hr h
theorem snd_tchain3 {o1 o2 o3 : Op} {p q r : CmpOp} {a b c d : E} {x y z w : Expr} {pos : Pos} (g : Good T Φ k sc X) (hp : cmpOf o1 = some p) (hq : cmpOf o2 = some q) (hr : cmpOf o3 = some r) (hm : lastMarks [p, q, r] [y, z, w] = false)
    (ha : PE X x (tO X.K (evo Φ T.G a))) (hb : PE X y (tO X.K (evo Φ T.G b))) (hc : PE X z (tO X.K (evo Φ T.G c))) (hd : PE X w (tO X.K (evo Φ T.G d))) : PT X (.Compare x [p, q, r] [y, z, w] pos) (tTst X.K (evo Φ T.G (.chain3 o1 o2 o3 a b c d))) :=
  PT.weak (pt_chain3 (cmp_rule g.hu hp) (cmp_rule g.hu hq) (cmp_rule g.hu hr) ha hb hc hd hm) fun σ H Q h => by
    obtain ⟨e, F, o', e', d', c', he, n, hf, hr', ht, hQ⟩ := h
    refine chain3_reads (Q := fun x H' => ∃ k, x = .bl k ∧ Q k H') hp hq hr ⟨e, F, o', e', he, n, hf, fun v H1 Fd F1 ox he1 n1 s1 => ?_⟩
    have hb : ∃ b, o' = .tmp (.imm (.bl b)) := by
      obtain ⟨x, y, e1, e2, ds, k1, h1, h2, h3, h4, h5⟩ := evo_chain3 hf
      rcases h5 with ⟨_, rfl, _⟩ | ⟨_, z, e3, ds2, k2, _, _, _, ⟨_, rfl, _⟩ | ⟨_, w, ds3, d3, _, _, m3, rfl⟩⟩
      · exact ⟨_, rfl⟩
      · exact ⟨_, rfl⟩
      · obtain ⟨b, rfl⟩ := cmp_bool hr m3
        exact ⟨b, rfl⟩
    obtain ⟨b, rfl⟩ := hb
    cases hr'
    cases ht
    obtain rfl := (show Rep X.K H1 v (.imm (.bl _)) Fd from ox).bl_of
    exact ⟨_, rfl, hQ H1 F1 he1 (nd_right n1) (stp_drop s1)⟩
/-! ### {} -/
theorem snd_dnew {t : Bool} {pos : Pos} : PE X (.Dict [] [] pos) (tO X.K (evo Φ T.G (.dnew t))) := by
  have key : ∀ {σ : L2.St} {H : Hp} {Q : VK} {o : HO} {p : Addr}, tO X.K (evo Φ T.G (.dnew t)) σ H Q → H p = none → (∀ {H}, H p = some o → Rep X.K H (.ref p) (.dic t []) [p]) → Q (.ref p) (upd H p o) := fun {σ H Q o p} h hp hr => by
    obtain ⟨e, F, x, e', he, n, hf, hQ⟩ := h
    simp only [evo, Option.some.injEq, Prod.mk.injEq] at hf
    obtain ⟨rfl, rfl⟩ := hf
    have sm : Same H (upd H p o) := same_new hp
    obtain ⟨s2, n2⟩ := stp_new (Fs := []) (F2 := F) (F3 := [p]) (Stp.refl H F) n he.mut sm (fun a z => by rw [List.mem_singleton.mp z]; exact hp) (by simp)
    exact hQ _ _ [p] F (hr upd_same) (he.same sm) n2 s2
  cases t with
  | false => exact PE.weak pe_dnewK fun σ H Q h p hp => key h hp fun e => .dicK e .nil
  | true => exact PE.weak pe_dnewT fun σ H Q h p hp => key h hp fun e => .dicT e .nil
/-! ### list(range(..)) -/
def rRng1 : List V → Hp → VK → Prop := fun vs H Q => ∃ j, vs = [V.int j] ∧ ∀ p, H p = none → Q (.ref p) (upd H p (.rng 0 j))
def rRng2 : List V → Hp → VK → Prop := fun vs H Q => ∃ i j, vs = [V.int i, V.int j] ∧ ∀ p, H p = none → Q (.ref p) (upd H p (.rng i j))
theorem cr_range1 : CallR X (.type "range") rRng1 := by
  intro pins s σ H vs us Q I r h
  obtain ⟨j, rfl, q⟩ := h
  obtain ⟨u, rfl, t, rfl⟩ := Vals.one r
  refine call_range_1 ⟨.ref s.heap.objs.size, upd H s.heap.objs.size (.rng 0 j), I.laid (t' := s.toks + 1 + 1) (fun b o e => Heap.get?_push_of_some _ e) (Nat.le_refl _) ?_, rfl, q _ (I.hok.fresh (Nat.le_refl _))⟩
  exact ⟨s.toks, t, s.toks + 1, Heap.get?_push_size _ rfl⟩
def rLsR (tu : Bool) : List V → Hp → VK → Prop := fun vs H Q => ∃ a lo hi, vs = [V.ref a] ∧ H a = some (.rng lo hi) ∧ (-(2 ^ 62) ≤ lo ∧ lo < 2 ^ 62 ∧ -(2 ^ 62) ≤ hi ∧ hi < 2 ^ 62) ∧ (hi - lo).toNat ≤ line ∧
  ∀ p, H p = none → Q (.ref p) (upd H p (if tu then .tup ((List.range (hi - lo).toNat).map fun k : Nat => V.int (lo + (k : Int))) else .lst ((List.range (hi - lo).toNat).map fun k : Nat => V.int (lo + (k : Int)))))
theorem items_vals {acc : Array Value} {lo : Int} {n : Nat} (h : ItemsOf (fun i v => ∃ t, v = .int (lo + i * 1) t) acc n) : Vals ((List.range n).map fun k : Nat => V.int (lo + (k : Int))) acc.toList := by
  obtain ⟨h1, h2⟩ := h
  refine vals_of_items (by rw [List.length_map, List.length_range, Array.length_toList, h1]) fun i v hv => ?_
  obtain ⟨t, e⟩ := h2 i v (by simpa using hv)
  have hi : i < n := by
    have := (List.getElem?_eq_some_iff.mp hv).1
    rw [Array.length_toList, h1] at this
    exact this
  refine ⟨.int (lo + (i : Int)), by rw [List.getElem?_map, List.getElem?_range hi] <;> rfl, t, ?_⟩
  rw [e]
  congr 1
  omega
theorem rng_size {lo hi : Int} : ((hi - lo).toNat : Int) = Builtin.Range.rangeSize lo hi 1 := by
  rw [rangeSize_one]
  split <;> omega
theorem cr_lsR (hc : X.calm = true) : CallR X (.type "list") (rLsR false) := by
  intro pins s σ H vs us Q I r h
  obtain ⟨a, lo, hi, rfl, ha, ⟨b1, b2, b3, b4⟩, hl, q⟩ := h
  obtain ⟨u, rfl, rfl⟩ := Vals.one r
  obtain ⟨t1, t2, t3, hr⟩ := (show ObjOk X.prog X.w H s.heap a (.rng lo hi) from I.hok a _ ha)
  refine call_list_range (I.ok.hd hc) hr (small_one b1 b2 b3 b4) rng_size.symm hl fun h' tk acc c' hk hg hacc => ?_
  have hv := items_vals hacc
  refine ⟨.ref s.heap.objs.size, _, I.laid (t' := tk) (o := .lst _) hk (Nat.le_refl _) ⟨?_, acc.toList, c', hv, by simpa using hg⟩, rfl, q _ (I.hok.fresh (Nat.le_refl _))⟩
  rw [List.length_map, List.length_range]
  exact le_line hl
theorem cr_tuR (hc : X.calm = true) : CallR X (.type "tuple") (rLsR true) := by
  intro pins s σ H vs us Q I r h
  obtain ⟨a, lo, hi, rfl, ha, ⟨b1, b2, b3, b4⟩, hl, q⟩ := h
  obtain ⟨u, rfl, rfl⟩ := Vals.one r
  obtain ⟨t1, t2, t3, hr⟩ := (show ObjOk X.prog X.w H s.heap a (.rng lo hi) from I.hok a _ ha)
  refine call_tuple_range (I.ok.hd hc) hr (small_one b1 b2 b3 b4) rng_size.symm hl fun h' tk acc hk hacc => ?_
  have hv := items_vals hacc
  have I1 : Inv X pins σ H { s with heap := h', toks := tk } := I.kept (t' := tk) hk
  refine ⟨.ref h'.objs.size, _, I1.laid (t' := tk) (o := .tup _) (fun b o e => Heap.get?_push_of_some _ e) (Nat.le_refl _) ⟨?_, acc.toList, hv, by simpa using IsTup.new h' acc⟩, rfl, q _ (I1.hok.fresh (Nat.le_refl _))⟩
  rw [List.length_map, List.length_range]
  exact le_line hl
theorem rng_reps {K : PySem.W.Frag} {H : Hp} (lo : Int) : ∀ l : List Nat, PReps K H (l.map fun k : Nat => V.int (lo + (k : Int))) (l.map fun k : Nat => P.int (lo + (k : Int)))
  | [] => .nil
  | _ :: l => .cons (.int _) (rng_reps lo l)
theorem lsi_end {tu : Bool} {σ : L2.St} {H H1 : Hp} {F Fs F1 : List Addr} {e1 : En} {lo hi : Int} {p : Addr} {Q : VK} (he1 : EnvRep X.K H1 σ e1 F1) (n1 : (Fs ++ F1).Nodup) (s1 : Stp H F H1 (Fs ++ F1)) (hp : H1 p = none)
    (hb : -(2 ^ 62) ≤ lo ∧ lo < 2 ^ 62 ∧ -(2 ^ 62) ≤ hi ∧ hi < 2 ^ 62) (hl : (hi - lo).toNat ≤ line)
    (hQ : ∀ v H' Fd F', ORep X.K H' σ v (.tmp (if tu then .imm (.tup ((List.range (hi - lo).toNat).map fun k : Nat => P.int (lo + (k : Int)))) else .lst ((List.range (hi - lo).toNat).map fun k : Nat => P.int (lo + (k : Int))))) Fd → EnvRep X.K H' σ e1 F' → (Fd ++ F').Nodup → Stp H F H' (Fd ++ F') → Q v H') :
    rLsR tu [.ref p] (upd H1 p (.rng lo hi)) Q := by
  refine ⟨p, lo, hi, rfl, upd_same, hb, hl, fun q hq => ?_⟩
  have smp : Same H1 (upd H1 p (.rng lo hi)) := same_new hp
  cases tu with
  | false =>
    have sm : Same H1 _ := smp.trans (same_new (o := .lst ((List.range (hi - lo).toNat).map fun k : Nat => V.int (lo + (k : Int)))) hq)
    have hq1 : H1 q = none := by
      cases z : H1 q with
      | none => rfl
      | some o => rw [smp _ _ z] at hq; cases hq
    obtain ⟨s2, n2⟩ := stp_new (F3 := [q]) s1 n1 he1.mut sm (fun a z => by rw [List.mem_singleton.mp z]; exact hq1) (by simp)
    exact hQ _ _ [q] F1 (Rep.lst upd_same (rng_reps lo _)) (he1.same sm) n2 s2
  | true =>
    have sm : Same H1 _ := smp.trans (same_new (o := .tup ((List.range (hi - lo).toNat).map fun k : Nat => V.int (lo + (k : Int)))) hq)
    obtain ⟨s2, n2⟩ := stp_new (F3 := []) s1 n1 he1.mut sm (fun a z => nomatch z) List.nodup_nil
    exact hQ _ _ [] F1 (Rep.imm (.tup upd_same (rng_reps lo _))) (he1.same sm) n2 s2
theorem evo_lsi {tu : Bool} {ik : IK} {as : List E} {e e2 : En} {r : Opd} (h : evo Φ T.G (.lsi tu ik as) e = some (r, e2)) : ∃ os ds ps, evos Φ T.G as e = some (os, e2) ∧ resvs e2 os = some ds ∧ items ik ds = some ps ∧ ps.length ≤ line ∧ r = .tmp (if tu then .imm (.tup ps) else .lst ps) := by
  simp only [evo] at h
  obtain ⟨⟨os, e1⟩, h1, h⟩ := bind_some h
  obtain ⟨ds, h2, h⟩ := bind_some h
  obtain ⟨ps, h3, h⟩ := bind_some h
  split at h
  · rename_i c
    cases h
    exact ⟨os, ds, ps, h1, h2, h3, c, rfl⟩
  · cases h
theorem snd_lsi0 {tu : Bool} {as : List E} {it : Expr} {t : TE} {p pos : Pos} (g : Good T Φ k sc X) (hg : glB sc (if tu then "tuple" else "list" : Str) = true) (hst : notStar it = true) (h : PE X it t)
    (w : ∀ σ H Q, tO X.K (evo Φ T.G (.lsi tu ik as)) σ H Q → t σ H fun x H1 => rLsR tu [x] H1 Q) : PE X (.Call (.Name (if tu then "tuple" else "list" : Str) p) [it] [] pos) (tO X.K (evo Φ T.G (.lsi tu ik as))) := by
  cases tu with
  | false =>
    obtain ⟨g1, g2, g3⟩ := gl_of hg
    exact PE.weak (pe_callTy (cr_lsR g.calm) (g.gl g1) (g.blt _ (by decide)) (by decide +kernel) (pa_cons h pa_nil (star_of hst _ _)) g3 g2 (star_of hst _ _) (stars_of rfl)) fun σ H Q q => w σ H Q q
  | true =>
    obtain ⟨g1, g2, g3⟩ := gl_of hg
    exact PE.weak (pe_callTy (cr_tuR g.calm) (g.gl g1) (g.blt _ (by decide)) (by decide +kernel) (pa_cons h pa_nil (star_of hst _ _)) g3 g2 (star_of hst _ _) (stars_of rfl)) fun σ H Q q => w σ H Q q
theorem snd_lsi1 {tu : Bool} {as : List E} {it : Expr} {p pos : Pos} (g : Good T Φ k sc X) (hg : glB sc (if tu then "tuple" else "list" : Str) = true) (h : chkC sc "range" 1 (fun xs => chkEs T sc as xs) it = true) (hs : ∀ xs, chkEs T sc as xs = true → PA X xs (tOs X.K (evos Φ T.G as)) ∧ xs.all notStar = true) :
    PE X (.Call (.Name (if tu then "tuple" else "list" : Str) p) [it] [] pos) (tO X.K (evo Φ T.G (.lsi tu .rng1 as))) := by
  obtain ⟨p2, args, pos2, rfl, hg2, hck, hlen⟩ := chkC_of h
  obtain ⟨pa, st⟩ := hs args hck
  obtain ⟨g1, g2, g3⟩ := gl_of hg2
  cases args with
  | nil => cases hlen
  | cons y ys =>
    rw [List.all_cons, Bool.and_eq_true] at st
    refine snd_lsi0 g hg rfl (pe_callTy cr_range1 (g.gl g1) (g.blt _ (by decide)) (by decide +kernel) pa g3 g2 (star_of st.1 _ _) (stars_of st.2)) fun σ H Q h => ?_
    obtain ⟨e, F, o, e', he, n, hf, hQ⟩ := h
    obtain ⟨os, ds, ps, h1, h2, h3, h4, rfl⟩ := evo_lsi hf
    refine ⟨e, F, os, e', he, n, h1, fun vs H1 Fs F1 rs he1 n1 s1 => ?_⟩
    obtain ⟨j, rfl, hj, rfl⟩ := ints_one h3
    obtain ⟨v, F0, rfl, r1⟩ := (resvs_ok he1 rs h2).one
    obtain rfl := r1.int_of
    refine ⟨j, rfl, fun q hq => ?_⟩
    rw [List.length_map, List.length_range] at h4
    refine lsi_end he1 n1 s1 hq ⟨by decide, by decide, hj.1, hj.2⟩ (by rw [Int.sub_zero]; exact h4) ?_
    simp only [Int.sub_zero, Int.zero_add]
    exact hQ
theorem snd_lsi2 {tu : Bool} {as : List E} {it : Expr} {p pos : Pos} (g : Good T Φ k sc X) (hg : glB sc (if tu then "tuple" else "list" : Str) = true) (h : chkC sc "range" 2 (fun xs => chkEs T sc as xs) it = true) (hs : ∀ xs, chkEs T sc as xs = true → PA X xs (tOs X.K (evos Φ T.G as)) ∧ xs.all notStar = true) :
    PE X (.Call (.Name (if tu then "tuple" else "list" : Str) p) [it] [] pos) (tO X.K (evo Φ T.G (.lsi tu .rng2 as))) := by
  obtain ⟨p2, args, pos2, rfl, hg2, hck, hlen⟩ := chkC_of h
  obtain ⟨pa, st⟩ := hs args hck
  obtain ⟨g1, g2, g3⟩ := gl_of hg2
  cases args with
  | nil => cases hlen
  | cons y ys =>
    rw [List.all_cons, Bool.and_eq_true] at st
    refine snd_lsi0 g hg rfl (pe_callTy cr_range2 (g.gl g1) (g.blt _ (by decide)) (by decide +kernel) pa g3 g2 (star_of st.1 _ _) (stars_of st.2)) fun σ H Q h => ?_
    obtain ⟨e, F, o, e', he, n, hf, hQ⟩ := h
    obtain ⟨os, ds, ps, h1, h2, h3, h4, rfl⟩ := evo_lsi hf
    refine ⟨e, F, os, e', he, n, h1, fun vs H1 Fs F1 rs he1 n1 s1 => ?_⟩
    obtain ⟨i, j, rfl, hj, rfl⟩ := ints_two h3
    obtain ⟨v, u, F0, G0, rfl, r1, r2⟩ := (resvs_ok he1 rs h2).two
    obtain rfl := r1.int_of
    obtain rfl := r2.int_of
    refine ⟨i, j, rfl, fun q hq => ?_⟩
    rw [List.length_map, List.length_range] at h4
    exact lsi_end he1 n1 s1 hq hj h4 hQ
end
end Sw
set_option maxHeartbeats 1000000
/-! Sw, part 16d: dict displays. -/
namespace Sw
open PySem PySem.Spec PyProof.Rows L2
section
variable {T : Tab} {Φ : CallS} {k : Nat} {sc : Scope} {X : Cx} {e e1 e2 : En}
/-- d[y] = v while a dict is made -/
theorem d_store {pins : List (Addr × Obj)} {σ : L2.St} {H H' : Hp} {s : Shared} {E : Value → Shared → Prop} {D : Addr} {y v : V} {u r : Value} {Q : Unit → Shared → Prop} (hu : X.A.units < cLine) (I : Inv X pins σ H s) (g : DPut H D y v H') (ry : RelV y u) (rv : RelV v r)
    (h : ∀ s', Inv X pins σ H' s' → Q () s') : wpAny (model X.prog X.w) X.A (dictSet D u r) Q E s := by
  rcases g with ⟨kv, kk, e, rfl, l, rfl⟩ | ⟨kv, kk, b, e, rfl, eb, l, rfl⟩
  · exact d_dictSet' I e l ry rv h
  · cases (show u = Value.ref b from ry)
    obtain ⟨z, hd, xs, rel, dd⟩ := dt_of I.hok e
    have hz : xs.length ≤ sizeLine := Paired.length rel ▸ z
    have hl : (putK kv kk v).length ≤ sizeLine := Nat.le_trans (length_putK kv kk v) l
    refine wpAny_dictSet_heap (hsz := hz) (knd := tupleKind (mixKind X.prog X.w)) hu (key_of I.hok eb) dd fun h' dd' hs => h _ ?_
    obtain ⟨q, es, ep, hq, h2, h3, h4, _, h5⟩ := dd'
    refine d_write I (by rw [e]; exact True.intro) hs ⟨q, hq⟩ ⟨hl, hd, _, KT.keeps (KT.put rel kk eb rv) (fun c ys ec => ?_), q, es, ep, hq, h2, h3, h4, h5⟩
    rw [upd_ne (ne_of ec e (fun z => nomatch z))]
    exact ec
where
  d_dictSet' {pins : List (Addr × Obj)} {σ : L2.St} {H : Hp} {s : Shared} {E : Value → Shared → Prop} {D : Addr} {kv : List (L2.Key × V)} {kk : L2.Key} {v : V} {u r : Value} {Q : Unit → Shared → Prop} (I : Inv X pins σ H s) (e : H D = some (.dK kv)) (l : kv.length < sizeLine) (ry : RelV (kV kk) u) (rv : RelV v r)
    (h : ∀ s', Inv X pins σ (upd H D (.dK (putK kv kk v))) s' → Q () s') : wpAny (model X.prog X.w) X.A (dictSet D u r) Q E s := by
    obtain ⟨z, hd, vs, rel, dd⟩ := dk_of I.hok e
    have hz : vs.length ≤ sizeLine := rel.length ▸ z
    refine wpAny_dictSet_pairs (hsz := hz) (kV_is ry) dd fun h' dd' hs => h _ ?_
    exact d_write I (by rw [e]; exact True.intro) hs (let ⟨q, _, _, hq, _⟩ := dd'; ⟨q, hq⟩) (dk_new (Nat.le_trans (length_putK kv kk v) l) hd (rel.put kk rv) dd')
/-- a dict, one entry more -/
theorem dput_of {H : Hp} {K : PySem.W.Frag} {t : Bool} {kvs : List (P × P)} {D : Addr} {p q : P} {vk vv : V} (hd : Rep K H (.ref D) (.dic t kvs) [D]) (hk : PRep K H vk p) (hv : PRep K H vv q) (ok : keyOk t p = true) (hl : kvs.length < sizeLine) :
    ∃ H' o', H' = upd H D o' ∧ DPut H D vk vv H' ∧ Keeps H H' ∧ Rep K H' (.ref D) (.dic t (putKV kvs p q)) [D] := by
  cases hd with
  | @dicK a kv _ e r =>
    obtain ⟨kk, rfl, hkk⟩ := key_of_prep ok hk
    have kp : Keeps H (upd H D (.dK (putK kv kk vv))) := fun b u eb st => by
      rw [upd_ne (fun z => by subst z; rw [e] at eb; cases eb; exact st trivial)]; exact eb
    exact ⟨_, _, rfl, DPut.k e (by rw [DP.length r]; exact hl), kp, .dicK upd_same (Paired.mapP (DP.put KRep.inj hkk hv r) fun x y z => ⟨z.1, z.2.keep kp⟩)⟩
  | @dicT a kv _ e r =>
    cases hk <;> first | (cases ok; done) | skip
    rename_i b xs ps eb q1
    obtain ⟨ks, rfl, hks⟩ := keys_of_preps ok q1
    have kp : Keeps H (upd H D (.dT (putK kv ks vv))) := fun b u eb st => by
      rw [upd_ne (fun z => by subst z; rw [e] at eb; cases eb; exact st trivial)]; exact eb
    exact ⟨_, _, rfl, DPut.t e eb (by rw [DP.length r]; exact hl), kp, .dicT upd_same (Paired.mapP (DP.put TRep.inj (.mk hks) hv r) fun x y z => ⟨z.1, z.2.keep kp⟩)⟩
def flatV : List (V × V) → List V
  | [] => []
  | p :: r => p.1 :: p.2 :: flatV r
theorem store_all {pins : List (Addr × Obj)} {σ : L2.St} {E : Value → Shared → Prop} {t : Bool} {D : Addr} {kvsF : List (P × P)} (hu : X.A.units < cLine) : ∀ (vps : List (V × V)) (vs : List (Value × Value)) (pps : List P) (kvs : List (P × P)) (H : Hp) (s : Shared) (Q : PUnit → Shared → Prop),
    Inv X pins σ H s → VV vps vs → PReps X.K H (flatV vps) pps → mkD t pps kvs = some kvsF → Rep X.K H (.ref D) (.dic t kvs) [D] → kvs.length + vps.length ≤ line →
    (∀ o s', Inv X pins σ (upd H D o) s' → Rep X.K (upd H D o) (.ref D) (.dic t kvsF) [D] → Keeps H (upd H D o) → Q PUnit.unit s') → (∀ s', Inv X pins σ H s' → vps = [] → Rep X.K H (.ref D) (.dic t kvsF) [D] → Q PUnit.unit s') → wpAny (model X.prog X.w) X.A (storeAll D vs) Q E s
  | [], [], pps, kvs, H, s, Q, I, _, hr, hm, hd, _, _, h0 => by
    cases hr
    cases hm
    unfold storeAll
    rw [List.forIn_nil]
    exact wpAny_pure (h0 s I rfl hd)
  | vp :: vps, v :: vs, pps, kvs, H, s, Q, I, rv, hr, hm, hd, hl, hq, _ => by
    cases rv with
    | cons r1 rt =>
    cases hr with
    | @cons _ _ p1 ps1 ra rb =>
    cases rb with
    | @cons _ _ p2 ps2 rc rd =>
    have hm : (if keyOk t p1 then mkD t ps2 (putKV kvs p1 p2) else none) = some kvsF := hm
    split at hm
    · rename_i ok
      rw [List.length_cons] at hl
      obtain ⟨H1, o1, e1, g, kp, rp⟩ := dput_of hd ra rc ok (lt_line (by omega))
      unfold storeAll
      rw [List.forIn_cons]
      refine wpAny_bind (wpAny_bind (d_store hu I g r1.1 r1.2 fun s1 I1 => wpAny_pure ?_))
      have hlen : (putKV kvs p1 p2).length ≤ kvs.length + 1 := by unfold putKV; split <;> simp
      subst e1
      refine store_all hu vps vs ps2 (putKV kvs p1 p2) (upd H D o1) s1 Q I1 rt (rd.keep kp) hm rp (by omega) (fun o s' I2 r2 kp2 => ?_) fun s' I2 _ r2 => hq o1 s' I2 r2 kp
      have e2 : upd (upd H D o1) D o = upd H D o := by
        funext b
        by_cases z : b = D
        · subst z; rw [upd_same, upd_same]
        · rw [upd_ne z, upd_ne z, upd_ne z]
      rw [e2] at I2 r2 kp2
      exact hq o s' I2 r2 (kp.trans kp2)
    · cases hm
  | [], _ :: _, _, _, _, _, _, _, rv, _, _, _, _, _, _ => nomatch rv
  | _ :: _, [], _, _, _, _, _, _, rv, _, _, _, _, _, _ => nomatch rv
/-- what the pairs are -/
def trsOf (K : PySem.W.Frag) (Φ : CallS) (G : List P) : List E → List (TE × TE)
  | [] => []
  | a :: r => (match r with
    | [] => []
    | b :: r => (tO K (evo Φ G a), tO K (evo Φ G b)) :: trsOf K Φ G r)
theorem inter_none {ks : List (Option Expr)} {vs : List Expr} {xs : List Expr} (h : inter ks vs = some xs) : ks.all (·.isSome) = true ∧ ks.length = vs.length := by
  induction ks generalizing vs xs with
  | nil => cases vs <;> first | exact ⟨rfl, rfl⟩ | cases h
  | cons k ks ih =>
    cases k with
    | none => cases vs <;> cases h
    | some k =>
      cases vs with
      | nil => cases h
      | cons v vs =>
        have h : (inter ks vs).map (fun r => k :: v :: r) = some xs := h
        cases q : inter ks vs with
        | none => rw [q] at h; cases h
        | some r =>
          obtain ⟨h1, h2⟩ := ih q
          exact ⟨by simpa using h1, by simpa using h2⟩
theorem pps_of {pos : Pos} : ∀ {ks : List (Option Expr)} {vs xs : List Expr} {es : List E}, inter ks vs = some xs → Paired (fun a x => PE X x (tO X.K (evo Φ T.G a))) es xs → PPs X pos ks vs (trsOf X.K Φ T.G es)
  | [], [], xs, es, h, hp => by
    cases h
    cases hp
    exact pps_nil
  | some k :: ks, v :: vs, xs, es, h, hp => by
    have h : (inter ks vs).map (fun r => k :: v :: r) = some xs := h
    cases q : inter ks vs with
    | none => rw [q] at h; cases h
    | some r =>
      rw [q] at h
      cases h
      cases hp with
      | cons h1 ht =>
      cases ht with
      | cons h2 ht => exact pps_cons h1 h2 (pps_of q ht)
  | none :: _, _, _, _, h, _ => by cases h
  | some _ :: _, [], _, _, h, _ => by cases h
  | [], _ :: _, _, _, h, _ => by cases h
theorem pairs_reads {K : PySem.W.Frag} {σ : L2.St} : ∀ {es : List E} {H : Hp} {F : List Addr} {e e' : En} {os : List Opd} {Q : List (V × V) → Hp → Prop} {n : Nat}, es.length = 2 * n → EnvRep K H σ e F → F.Nodup → evos Φ T.G es e = some (os, e') →
    (∀ vps H' Fs F', vps.length = n → ORs K H' σ (flatV vps) os Fs → EnvRep K H' σ e' F' → (Fs ++ F').Nodup → Stp H F H' (Fs ++ F') → Q vps H') → tPairs (trsOf K Φ T.G es) σ H Q
  | [], H, F, e, e', os, Q, n, hn, he, nd, hf, hQ => by
    simp only [evos, Option.some.injEq, Prod.mk.injEq] at hf
    obtain ⟨rfl, rfl⟩ := hf
    exact hQ [] H [] F (by simp at hn; simp; omega) .nil he nd (Stp.refl H F)
  | [_], H, F, e, e', os, Q, n, hn, _, _, _, _ => by simp at hn; omega
  | a :: b :: r, H, F, e, e', os, Q, n, hn, he, nd, hf, hQ => by
    obtain ⟨x, ys, e1, h1, h2, rfl⟩ := evos_cons hf
    obtain ⟨y, zs, e2, h3, h4, rfl⟩ := evos_cons h2
    obtain ⟨n, rfl⟩ : ∃ n', n = n' + 1 := ⟨n - 1, by simp at hn; omega⟩
    refine two_ops he nd h1 h3 fun vx vy H2 Fs F2 rs he2 n2 s2 => ?_
    refine pairs_reads (n := n) (by simp at hn; omega) he2 (nd_right n2) h4 fun vps H' Fp F' hl rp he' n' s' => ?_
    obtain ⟨s3, n3⟩ := stp_two s2 n2 rs.mut s' n'
    have rs2 := rs.frame he2 n2 s'
    cases rs2 with
    | @cons _ _ _ _ Fa Ga r1 rt =>
    cases rt with
    | @cons _ _ _ _ Fb Gb r2 rt =>
    cases rt
    refine hQ ((vx, vy) :: vps) H' (Fa ++ (Fb ++ Fp)) F' (by simp [hl]) (.cons r1 (.cons r2 rp)) he' ?_ ?_
    · simpa using n3
    · simpa using s3
theorem paired_len {α β : Type} {R : α → β → Prop} {as : List α} {bs : List β} (h : Paired R as bs) : as.length = bs.length := Paired.length h
theorem inter_len : ∀ {ks : List (Option Expr)} {vs : List Expr} {xs : List Expr}, inter ks vs = some xs → xs.length = 2 * ks.length
  | [], [], xs, h => by cases h; rfl
  | some k :: ks, v :: vs, xs, h => by
    have h : (inter ks vs).map (fun r => k :: v :: r) = some xs := h
    cases q : inter ks vs with
    | none => rw [q] at h; cases h
    | some r =>
      rw [q] at h
      cases h
      have := inter_len q
      simp [this]; omega
  | none :: _, _, _, h => by cases h
  | some _ :: _, [], _, h => by cases h
  | [], _ :: _, _, h => by cases h
theorem snd_dlit {t : Bool} {es : List E} {ks : List (Option Expr)} {vs xs : List Expr} {pos : Pos} (g : Good T Φ k sc X) (h0 : ks ≠ []) (h15 : ks.length ≤ 15) (hi : inter ks vs = some xs) (hp : Paired (fun a x => PE X x (tO X.K (evo Φ T.G a))) es xs) :
    PE X (.Dict ks vs pos) (tO X.K (evo Φ T.G (.dlit t es))) := by
  refine ⟨fun pins s σ H Q I h => ?_⟩
  obtain ⟨e, F, o, e', he, n, hf, hQ⟩ := h
  simp only [evo] at hf
  obtain ⟨⟨os, e1⟩, h1, h2⟩ := bind_some hf
  obtain ⟨ps, h3, h4⟩ := bind_some h2
  obtain ⟨kvs, h5, h6⟩ := bind_some h4
  cases h6
  have hu : X.A.units < cLine := by have := g.hu; omega
  obtain ⟨a1, a2⟩ := inter_none hi
  have hD : H s.heap.objs.size = none := I.hok.fresh (Nat.le_refl _)
  refine wpAny_Dict_any a1 a2 h0 h15 ?_
  have start : ∃ o0, Inv X pins σ (upd H s.heap.objs.size o0) { s with heap := s.heap.push { cls := .type "dict", data := .dict #[] } } ∧ (∀ {H' : Hp}, H' s.heap.objs.size = some o0 → Rep X.K H' (.ref s.heap.objs.size) (.dic t []) [s.heap.objs.size]) := by
    cases t with
    | false => exact ⟨.dK [], I.laid (o := .dK []) (t' := s.toks) (fun _ _ q => Heap.get?_push_of_some _ q) (Nat.le_refl _) (dk_empty s.heap I.big), fun e => .dicK e .nil⟩
    | true => exact ⟨.dT [], I.laid (o := .dT []) (t' := s.toks) (fun _ _ q => Heap.get?_push_of_some _ q) (Nat.le_refl _) (dt_empty s.heap I.big), fun e => .dicT e .nil⟩
  obtain ⟨o0, I1, r0⟩ := start
  generalize hDD : s.heap.objs.size = D at *
  have sm : Same H (upd H D o0) := same_new hD
  have he1 : EnvRep X.K (upd H D o0) σ e F := he.same sm
  have hln : es.length = 2 * ks.length := by rw [paired_len hp, inter_len hi]
  have hDF : D ∉ F := fun z => by obtain ⟨oo, q, _⟩ := he.mut D z; rw [hD] at q; cases q
  refine thn ((pps_of (T := T) (Φ := Φ) (pos := pos) hi hp).run pins _ σ _ _ I1 (pairs_reads hln he1 n h1 fun vps H2 Fs F2 hl rs he2 n2 s2 => (⟨hl, Fs, F2, rs, he2, n2, s2⟩ : vps.length = ks.length ∧ ∃ Fs F2, ORs X.K H2 σ (flatV vps) os Fs ∧ EnvRep X.K H2 σ e1 F2 ∧ (Fs ++ F2).Nodup ∧ Stp (upd H D o0) F H2 (Fs ++ F2)))) fun ws s2 ⟨vps, H2, I2, rv, hl, Fs, F2, rs, he2, n2, st2⟩ => ?_
  obtain ⟨q1, rfl⟩ := immOs_ok rs h3
  have hD2 : H2 D = some o0 := st2.keep D o0 upd_same hDF
  have hDF2 : D ∉ F2 := fun z => (st2.own D z).elim hDF fun q => by rw [upd_same] at q; cases q
  have st3 : Stp H F H2 ([D] ++ F2) := by
    refine ⟨fun a oo q1 q2 => st2.keep a oo (sm _ _ q1) q2, fun a z => ?_⟩
    rcases List.mem_append.mp z with z | z
    · rw [List.mem_singleton.mp z]; exact .inr hD
    · rcases st2.own a z with q | q
      · exact .inl q
      · refine .inr ?_
        cases hh : H a with
        | none => rfl
        | some oo => rw [sm _ _ hh] at q; cases q
  have nd3 : ([D] ++ F2).Nodup := nd_mk (by simp) (nd_right n2) fun a z y => by rw [List.mem_singleton.mp z] at y; exact hDF2 y
  refine store_all hu vps ws ps [] H2 s2 _ I2 rv q1 h5 (r0 hD2) ?_ (fun oo s' I3 r3 kp => ?_) fun s' I3 _ r3 => ?_
  · have : ks.length ≤ 15 := h15
    simp only [List.length_nil]
    show 0 + vps.length ≤ 16777216
    omega
  · refine ⟨.ref D, _, I3, rfl, hQ _ _ [D] F2 r3 (he2.mono kp fun a z => upd_ne fun q => hDF2 (q ▸ z)) nd3 ?_⟩
    exact st3.trans (lock_stp (List.mem_append_left _ List.mem_cons_self) fun b z => z)
  · exact ⟨.ref D, _, I3, rfl, hQ _ _ [D] F2 r3 he2 nd3 st3⟩
end
end Sw
set_option maxHeartbeats 1000000
/-! Sw, part 17: soundness of expressions. -/
namespace Sw
open PySem PySem.Spec PyProof.Rows L2
theorem and2 {a b : Bool} (h : (a && b) = true) : a = true ∧ b = true := (Bool.and_eq_true _ _).mp h
theorem relS_vis {scope sc : Scope} : (relS scope sc).kind = scope.kind := rfl
theorem Good.blk {T : Tab} {Φ : CallS} {k : Nat} {sc : Scope} {X : Cx} (g : Good T Φ k sc X) (s : Shared) (H : Hp) (scope : Scope) (C : Addr) (cl : List (Str × Addr)) (fp : List Addr) : Good T Φ k (relS scope sc) (X.blk s H scope (compEnvC scope cl C X.env) fp) :=
  ⟨g.N, g.nd, g.calm, g.room, by rw [← g.scope]; rfl, g.glos, g.fns, g.blt⟩
theorem stOk_blk {X : Cx} (s : Shared) (H : Hp) (scope : Scope) (C : Addr) (cl : List (Str × Addr)) (fp : List Addr) : StOk (X.blk s H scope (compEnvC scope cl C X.env) fp) (stB scope) := by
  refine ⟨fun x h => ?_, fun x h => ?_⟩
  · unfold stB at h
    rw [Bool.or_eq_true] at h
    rcases h with h | h
    · exact .inl (lookup_relS_keep (by decide) (look_of h))
    · exact .inr (lookup_relS_keep (by decide) (look_of h))
  · unfold stB at h
    rw [Bool.or_eq_true] at h
    rcases h with h | h
    · exact .inr (lookup_relS_keep (by decide) (look_of h))
    · refine .inl ?_
      show (scope.names.lookup x == some NameKind.cell) = true
      rw [look_of h] <;> rfl
structure SndE (T : Tab) (Φ : CallS) (X : Cx) (a : E) (x : Expr) : Prop where
  pe : PE X x (tO X.K (evo Φ T.G a))
  pt : tstB a = true → PT X x (tTst X.K (evo Φ T.G a))
structure SndL (T : Tab) (Φ : CallS) (X : Cx) (as : List E) (xs : List Expr) : Prop where
  pa : PA X xs (tOs X.K (evos Φ T.G as))
  and : ∀ pos, xs ≠ [] → PE X (.BoolOp .And xs pos) (tO X.K (evand Φ T.G as))
  or : ∀ pos, xs ≠ [] → PE X (.BoolOp .Or xs pos) (tO X.K (evor Φ T.G as))
  wand : ∀ pos, xs ≠ [] → tstBs as = true → PW X (.BoolOp .And xs pos) (tTst X.K (evand Φ T.G as))
  wor : ∀ pos, xs ≠ [] → tstBs as = true → PW X (.BoolOp .Or xs pos) (tTst X.K (evor Φ T.G as))
  one : ∀ a x, as = [a] → xs = [x] → SndE T Φ X a x
  each : Paired (fun a x => PE X x (tO X.K (evo Φ T.G a))) as xs
  two : ∀ a b x y, as = [a, b] → xs = [x, y] → SndE T Φ X a x ∧ SndE T Φ X b y
theorem SndL.pts {T : Tab} {Φ : CallS} {X : Cx} {as : List E} {xs : List Expr} (h : SndL T Φ X as xs) (hl : as.length = xs.length) (h1 : as.length ≤ 1) (h2 : tstBs as = true) : PTs X xs (tB X.K (evtests Φ T.G as)) := by
  match as, xs, hl, h1, h2, h with
  | [], [], _, _, _, _ => exact snd_ptsNil
  | [a], [x], _, _, h2, h =>
    have h2 : (tstB a && true) = true := h2
    exact snd_ptsOne ((h.one a x rfl rfl).pt (and2 h2).1)
  | _ :: _ :: _, _, _, h1, _, _ => exact absurd h1 (by simp)
theorem noneC_of {e : Expr} (h : isNoneC e = true) : ∃ j p, e = .Constant .none j p := by
  unfold isNoneC at h
  split at h
  · exact ⟨_, _, rfl⟩
  · cases h
section
variable {T : Tab} {Φ : CallS} {k : Nat}
theorem SndE.plain {X : Cx} {a : E} {x : Expr} (h : PE X x (tO X.K (evo Φ T.G a))) (hp : plainTest x = true) : SndE T Φ X a x := ⟨h, fun _ => snd_tst hp h⟩
theorem two_of {sc : Scope} {es : List E} {x y : Expr} (h : chkEs T sc es [x, y] = true) : ∃ a b, es = [a, b] := by
  cases es with
  | nil => cases chkEs_len h
  | cons a es =>
    cases es with
    | nil => cases chkEs_len h
    | cons b es =>
      cases es with
      | nil => exact ⟨a, b, rfl⟩
      | cons _ _ => have := chkEs_len h; simp at this
theorem one_of {sc : Scope} {es : List E} {x : Expr} (h : chkEs T sc es [x] = true) : ∃ a, es = [a] := by
  cases es with
  | nil => cases chkEs_len h
  | cons a es =>
    cases es with
    | nil => exact ⟨a, rfl⟩
    | cons _ _ => have := chkEs_len h; simp at this
theorem last_of {p q : CmpOp} {y z : Expr} (h : notSet z = true) : lastMarks [p, q] [y, z] = false := by
  cases z <;> first | rfl | cases h
theorem ne_of_isEmpty {α : Type} {l : List α} (h : (!l.isEmpty) = true) : l ≠ [] := by
  intro e
  subst e
  cases h
theorem evo_and_reads {K : PySem.W.Frag} {es : List E} {σ : L2.St} {H : Hp} {Q : VK} (h : tO K (evo Φ T.G (.and es)) σ H Q) : tO K (evand Φ T.G es) σ H Q := by
  obtain ⟨e, F, o, e', he, n, hf, hQ⟩ := h
  rw [evo] at hf
  exact ⟨e, F, o, e', he, n, hf, hQ⟩
theorem evo_or_reads {K : PySem.W.Frag} {es : List E} {σ : L2.St} {H : Hp} {Q : VK} (h : tO K (evo Φ T.G (.or es)) σ H Q) : tO K (evor Φ T.G es) σ H Q := by
  obtain ⟨e, F, o, e', he, n, hf, hQ⟩ := h
  rw [evo] at hf
  exact ⟨e, F, o, e', he, n, hf, hQ⟩
theorem evo_and_readsT {K : PySem.W.Frag} {es : List E} {σ : L2.St} {H : Hp} {Q : Bool → Hp → Prop} (h : tTst K (evo Φ T.G (.and es)) σ H Q) : tTst K (evand Φ T.G es) σ H Q := by
  obtain ⟨e, F, o, e', d, b, he, n, hf, hQ⟩ := h
  rw [evo] at hf
  exact ⟨e, F, o, e', d, b, he, n, hf, hQ⟩
theorem evo_or_readsT {K : PySem.W.Frag} {es : List E} {σ : L2.St} {H : Hp} {Q : Bool → Hp → Prop} (h : tTst K (evo Φ T.G (.or es)) σ H Q) : tTst K (evor Φ T.G es) σ H Q := by
  obtain ⟨e, F, o, e', d, b, he, n, hf, hQ⟩ := h
  rw [evo] at hf
  exact ⟨e, F, o, e', d, b, he, n, hf, hQ⟩
theorem own_map (N : List Str) : ∀ own : List Nat, (ownN N own).map (·.2) = own
  | [] => rfl
  | i :: own => by
    have := own_map N own
    unfold ownN at this ⊢
    rw [List.map_cons, List.map_cons, this]
mutual
theorem chkE_star : ∀ {a : E} {sc : Scope} {x : Expr}, chkE T sc a x = true → notStar x = true
  | .frz a, sc, x, h => by simp only [chkE] at h; exact chkE_star (a := a) h
  | .nm i, sc, x, h => by cases x <;> first | rfl | simp [chkE] at h
  | .cst i, sc, x, h => by cases x <;> first | rfl | simp [chkE] at h
  | .glo i, sc, x, h => by cases x <;> first | rfl | simp [chkE] at h
  | .mv i, sc, x, h => by cases x <;> first | rfl | simp [chkE] at h
  | .tup i, sc, x, h => by cases x <;> first | rfl | simp [chkE] at h
  | .lst i, sc, x, h => by cases x <;> first | rfl | simp [chkE] at h
  | .op o i, sc, x, h => by cases x <;> first | rfl | simp [chkE] at h
  | .mth o a i, sc, x, h => by cases x <;> first | rfl | simp [chkE] at h
  | .chain _ _ _ _ _, sc, x, h => by cases x <;> first | rfl | simp [chkE] at h
  | .and i, sc, x, h => by cases x <;> first | rfl | simp [chkE] at h
  | .or i, sc, x, h => by cases x <;> first | rfl | simp [chkE] at h
  | .not i, sc, x, h => by cases x <;> first | rfl | simp [chkE] at h
  | .ife _ _ _, sc, x, h => by cases x <;> first | rfl | simp [chkE] at h
  | .slc _ _ _, sc, x, h => by cases x <;> first | rfl | simp [chkE] at h
  | .mut _ _ _, sc, x, h => by cases x <;> first | rfl | simp [chkE] at h
  | .call _ _, sc, x, h => by cases x <;> first | rfl | simp [chkE] at h
  | .cmp _ _ _ _ _ _, sc, x, h => by cases x <;> first | rfl | simp [chkE] at h
  | .cmp2 _ _ _ _ _ _ _ _ _ _ _, sc, x, h => by cases x <;> first | rfl | simp [chkE] at h
  | .chain3 _ _ _ _ _ _ _, sc, x, h => by cases x <;> first | rfl | simp [chkE] at h
  | .dnew _, sc, x, h => by cases x <;> first | rfl | simp [chkE] at h
  | .dlit _ _, sc, x, h => by cases x <;> first | rfl | simp [chkE] at h
  | .lsi _ _ _, sc, x, h => by cases x <;> first | rfl | simp [chkE] at h
end
mutual
theorem snd1 : ∀ (a : E) {X : Cx} {sc : Scope}, Good T Φ k sc X → ∀ {x : Expr}, chkE T sc a x = true → SndE T Φ X a x
  | .nm i, X, sc, g, x, h => by
    cases x <;> simp only [chkE] at h <;> first | (cases h; done) | skip
    exact .plain (snd_nm g h) rfl
  | .cst p, X, sc, g, x, h => by
    cases x <;> simp only [chkE] at h <;> first | (cases h; done) | skip
    exact .plain (snd_cst h) rfl
  | .glo j, X, sc, g, x, h => by
    cases x <;> simp only [chkE] at h <;> first | (cases h; done) | skip
    exact .plain (snd_glo g (and2 h).1 (of_decide_eq_true (and2 h).2)) rfl
  | .mv i, X, sc, g, x, h => by
    cases x <;> simp only [chkE] at h <;> first | (cases h; done) | skip
    exact .plain (snd_mv g h) rfl
  | .tup es, X, sc, g, x, h => by
    cases x <;> simp only [chkE] at h <;> first | (cases h; done) | skip
    exact .plain (snd_tup (snds es g h).pa) rfl
  | .lst es, X, sc, g, x, h => by
    cases x <;> simp only [chkE] at h <;> first | (cases h; done) | skip
    exact .plain (snd_lst (snds es g h).pa) rfl
  | .op o es, X, sc, g, x, h => by
    have ind := fun {xs : List Expr} (h : chkEs T sc es xs = true) => snds es g h
    cases x <;> simp only [chkE] at h <;> first | (cases h; done) | skip
    · -- binary
      obtain ⟨h1, h2⟩ := and2 h
      obtain ⟨a, b, rfl⟩ := two_of h2
      obtain ⟨ra, rb⟩ := (ind h2).two a b _ _ rfl rfl
      exact .plain (snd_bin g (of_decide_eq_true h1) ra.pe rb.pe) rfl
    · -- unary
      obtain ⟨h1, h2⟩ := and2 h
      obtain ⟨h3, h4⟩ := and2 h1
      obtain rfl := of_decide_eq_true h3
      obtain rfl := of_decide_eq_true h4
      obtain ⟨a, rfl⟩ := one_of h2
      exact ⟨snd_neg ((ind h2).one a _ rfl rfl).pe, fun z => by simp [tstB] at z⟩
    · -- comparison
      split at h
      · rcases (Bool.or_eq_true _ _).mp h with h | h
        · obtain ⟨h1, h2⟩ := and2 h
          obtain ⟨h3, h4⟩ := and2 h1
          have h3 := of_decide_eq_true h3
          obtain ⟨a, b, rfl⟩ := two_of h2
          obtain ⟨ra, rb⟩ := (ind h2).two a b _ _ rfl rfl
          exact ⟨snd_cmp g h3 h4 ra.pe rb.pe, fun _ => snd_tcmp g h3 h4 ra.pe rb.pe⟩
        · obtain ⟨h1, h2⟩ := and2 h
          obtain ⟨h3, h4⟩ := and2 h1
          obtain ⟨j, p, rfl⟩ := noneC_of h3
          obtain ⟨a, rfl⟩ := one_of h2
          have ra := (ind h2).one a _ rfl rfl
          rcases (Bool.or_eq_true _ _).mp h4 with h | h
          · obtain ⟨h5, h6⟩ := and2 h
            obtain rfl := of_decide_eq_true h5
            obtain rfl := of_decide_eq_true h6
            exact ⟨snd_isN ra.pe, fun _ => snd_tisN ra.pe⟩
          · obtain ⟨h5, h6⟩ := and2 h
            obtain rfl := of_decide_eq_true h5
            obtain rfl := of_decide_eq_true h6
            exact ⟨snd_notN ra.pe, fun _ => snd_tnotN ra.pe⟩
      · cases h
    · -- a call of a built-in
      rename_i f args kws pos
      split at h <;> first | (cases h; done) | skip
      rename_i y p
      split at h
      · rename_i ts
        obtain ⟨h1, h2⟩ := and2 h
        obtain ⟨h3, h4⟩ := and2 h1
        obtain rfl := of_decide_eq_true h3
        split at h2 <;> first | (cases h2; done) | skip
        rename_i u w
        obtain ⟨h5, h6⟩ := and2 h2
        obtain ⟨h7, h8⟩ := and2 h5
        obtain ⟨h9, h10⟩ := and2 h7
        obtain ⟨a, rfl⟩ := one_of h8
        have ra := (ind h8).one a _ rfl rfl
        split at h6
        · obtain ⟨h11, h12⟩ := and2 h6
          exact .plain (snd_isiT g h4 h9 h12 (of_decide_eq_true h11) ra.pe) rfl
        · split at h6
          · exact .plain (snd_isi1 g h4 h9 h6 ra.pe) rfl
          · cases h6
      · split at h
        · rename_i z fv n hb
          obtain ⟨h1, h2⟩ := and2 h
          obtain ⟨h3, h4⟩ := and2 h1
          obtain ⟨h5, h6⟩ := and2 h3
          obtain rfl := of_decide_eq_true h5
          exact .plain (snd_blt g hb h6 (of_decide_eq_true h4) (chkEs_star h2) (ind h2).pa) rfl
        · cases h
    · -- subscripts
      split at h
      · split at h
        · obtain ⟨h1, h2⟩ := and2 h
          obtain ⟨h3, h4⟩ := and2 h1
          obtain rfl := of_decide_eq_true h4
          obtain ⟨a, rfl⟩ := one_of h2
          exact .plain (snd_rev h3 ((ind h2).one a _ rfl rfl).pe) rfl
        · cases h
      · obtain ⟨h1, h2⟩ := and2 h
        obtain ⟨h3, h4⟩ := and2 h1
        obtain rfl := of_decide_eq_true h3
        obtain ⟨a, b, rfl⟩ := two_of h2
        obtain ⟨ra, rb⟩ := (ind h2).two a b _ _ rfl rfl
        exact .plain (snd_idx g h4 ra.pe rb.pe) rfl
  | .mth o a es, X, sc, g, x, h => by
    have ia := fun {y : Expr} (h : chkE T sc a y = true) => snd1 a g h
    have ind := fun {xs : List Expr} (h : chkEs T sc es xs = true) => snds es g h
    cases x <;> simp only [chkE] at h <;> first | (cases h; done) | skip
    split at h <;> first | (cases h; done) | skip
    split at h <;> first | (cases h; done) | skip
    rename_i hm
    obtain ⟨h1, h2⟩ := and2 h
    obtain ⟨h3, h4⟩ := and2 h1
    obtain ⟨h5, h6⟩ := and2 h3
    obtain ⟨h7, h8⟩ := and2 h5
    obtain ⟨h9, h10⟩ := and2 h7
    obtain ⟨h11, h12⟩ := and2 h9
    obtain rfl := of_decide_eq_true h11
    exact .plain (snd_mth g hm (of_decide_eq_true h12) h10 h8 (chkEs_star h2) (chkEs_len h2) (ia h4).pe (ind h2).pa) rfl
  | .chain o1 o2 a b c, X, sc, g, x, h => by
    have ia := fun {y : Expr} (h : chkE T sc a y = true) => snd1 a g h
    have ib := fun {y : Expr} (h : chkE T sc b y = true) => snd1 b g h
    have ic := fun {y : Expr} (h : chkE T sc c y = true) => snd1 c g h
    cases x <;> simp only [chkE] at h <;> first | (cases h; done) | skip
    split at h <;> first | (cases h; done) | skip
    rename_i p q y z
    obtain ⟨h1, h2⟩ := and2 h
    obtain ⟨h3, h4⟩ := and2 h1
    obtain ⟨h5, h6⟩ := and2 h3
    obtain ⟨h7, h8⟩ := and2 h5
    obtain ⟨h9, h10⟩ := and2 h7
    obtain ⟨h11, h12⟩ := and2 h9
    obtain ⟨h13, h14⟩ := and2 h11
    obtain ⟨h15, h16⟩ := and2 h13
    obtain ⟨h17, h18⟩ := and2 h15
    have hp := of_decide_eq_true h17
    have hq := of_decide_eq_true h18
    have hm : lastMarks [p, q] [y, z] = false := last_of h14
    exact ⟨snd_chain g hp hq hm (ia h6).pe (ib h4).pe (ic h2).pe, fun _ => snd_tchain g hp hq hm (ia h6).pe (ib h4).pe (ic h2).pe⟩
  | .and es, X, sc, g, x, h => by
    have ind := fun {xs : List Expr} (h : chkEs T sc es xs = true) => snds es g h
    cases x <;> simp only [chkE] at h <;> first | (cases h; done) | skip
    obtain ⟨h1, h2⟩ := and2 h
    obtain ⟨h3, h4⟩ := and2 h1
    obtain rfl := of_decide_eq_true h3
    have ne := ne_of_isEmpty h4
    have r := ind h2
    exact ⟨PE.weak (r.and _ ne) fun σ H Q => evo_and_reads, fun ht => PT.weak (r.wand _ ne ht).pt fun σ H Q => evo_and_readsT⟩
  | .or es, X, sc, g, x, h => by
    have ind := fun {xs : List Expr} (h : chkEs T sc es xs = true) => snds es g h
    cases x <;> simp only [chkE] at h <;> first | (cases h; done) | skip
    obtain ⟨h1, h2⟩ := and2 h
    obtain ⟨h3, h4⟩ := and2 h1
    obtain rfl := of_decide_eq_true h3
    have ne := ne_of_isEmpty h4
    have r := ind h2
    exact ⟨PE.weak (r.or _ ne) fun σ H Q => evo_or_reads, fun ht => PT.weak (r.wor _ ne ht).pt fun σ H Q => evo_or_readsT⟩
  | .not a, X, sc, g, x, h => by
    have ia := fun {y : Expr} (h : chkE T sc a y = true) => snd1 a g h
    cases x <;> simp only [chkE] at h <;> first | (cases h; done) | skip
    obtain ⟨h1, h2⟩ := and2 h
    obtain ⟨h3, h4⟩ := and2 h1
    obtain rfl := of_decide_eq_true h3
    exact ⟨snd_not (ia h4).pe, fun _ => snd_tnot ((ia h4).pt h2)⟩
  | .ife t a b, X, sc, g, x, h => by
    have it := fun {y : Expr} (h : chkE T sc t y = true) => snd1 t g h
    have ia := fun {y : Expr} (h : chkE T sc a y = true) => snd1 a g h
    have ib := fun {y : Expr} (h : chkE T sc b y = true) => snd1 b g h
    cases x <;> simp only [chkE] at h <;> first | (cases h; done) | skip
    obtain ⟨h1, h2⟩ := and2 h
    obtain ⟨h3, h4⟩ := and2 h1
    obtain ⟨h5, h6⟩ := and2 h3
    exact ⟨snd_ife ((it h5).pt h6) (ia h4).pe (ib h2).pe, fun z => by simp [tstB] at z⟩
  | .slc a lo hi, X, sc, g, x, h => by
    have ia := fun {y : Expr} (h : chkE T sc a y = true) => snd1 a g h
    have il := fun {y : Option Expr} (h : chkO T sc lo y = true) => sndo lo g h
    have ih := fun {y : Option Expr} (h : chkO T sc hi y = true) => sndo hi g h
    cases x <;> simp only [chkE] at h <;> first | (cases h; done) | skip
    split at h <;> first | (cases h; done) | skip
    split at h <;> first | (cases h; done) | skip
    obtain ⟨h1, h2⟩ := and2 h
    obtain ⟨h3, h4⟩ := and2 h1
    exact .plain (snd_slc (ia h3).pe (il h4) (ih h2)) rfl
  | .mut m i es, X, sc, g, x, h => by
    have ind := fun {xs : List Expr} (h : chkEs T sc es xs = true) => snds es g h
    cases x <;> simp only [chkE] at h <;> first | (cases h; done) | skip
    split at h <;> first | (cases h; done) | skip
    split at h <;> first | (cases h; done) | skip
    obtain ⟨h1, h2⟩ := and2 h
    obtain ⟨h3, h4⟩ := and2 h1
    obtain ⟨h5, h6⟩ := and2 h3
    obtain ⟨h7, h8⟩ := and2 h5
    obtain rfl := of_decide_eq_true h8
    exact .plain (snd_mut g h7 h6 (of_decide_eq_true h4) (chkEs_star h2) (chkEs_len h2) (ind h2).pa) rfl
  | .call f es, X, sc, g, x, h => by
    have ind := fun {xs : List Expr} (h : chkEs T sc es xs = true) => snds es g h
    cases x <;> simp only [chkE] at h <;> first | (cases h; done) | skip
    split at h <;> first | (cases h; done) | skip
    obtain ⟨h1, h2⟩ := and2 h
    obtain ⟨h3, h4⟩ := and2 h1
    exact .plain (snd_call g h3 (of_decide_eq_true h4) (chkEs_star h2) (ind h2).pa (chkEs_len h2)) rfl
  | .cmp own t ik as tests elt, X, sc, g, x, h => by
    have ind := fun {xs : List Expr} (h : chkEs T sc as xs = true) => snds as g h
    have it := fun {Y : Cx} {sd : Scope} (gY : Good T Φ k sd Y) {xs : List Expr} (h : chkEs T sd tests xs = true) => snds tests gY h
    have ie := fun {Y : Cx} {sd : Scope} (gY : Good T Φ k sd Y) {y : Expr} (h : chkE T sd elt y = true) => snd1 elt gY h
    cases x <;> simp only [chkE] at h <;> first | (cases h; done) | skip
    split at h <;> first | (cases h; done) | skip
    obtain ⟨h1, h2⟩ := and2 h
    obtain ⟨h3, h4⟩ := and2 h1
    obtain ⟨h5, h6⟩ := and2 h3
    obtain ⟨h7, h8⟩ := and2 h5
    obtain ⟨h9, h10⟩ := and2 h7
    obtain ⟨h11, h12⟩ := and2 h9
    obtain ⟨h13, h14⟩ := and2 h11
    obtain ⟨h15, h16⟩ := and2 h13
    obtain ⟨h17, h18⟩ := and2 h15
    obtain rfl := of_decide_eq_true h17
    refine .plain (snd_lcmp g (ow := ownN T.N own) (own_map T.N own) (of_decide_eq_true h10) (by rw [g.N, g.scope]; exact blkOk_by h16) (chkI_set h18) (snd_I g h18 (fun a y e z => ?_) fun xs z => (ind z).pa) (fun j hj => ?_) (fun s H C cl fp => ?_) (fun s H C cl fp => ?_) fun s H C cl fp => ?_) rfl
    · subst e
      exact ((ind (xs := [y]) (by simp [chkEs, z, chkE_star z])).one a y rfl rfl).pe
    · have := List.all_eq_true.mp h12 j hj
      simpa using this
    · have h14 : chkP T.N (stB _) t _ = true := h14
      rw [← g.N] at h14
      refine PG.weak (snd_pat (X := X.blk s H _ (compEnvC _ cl C X.env) fp) (by show X.N.Nodup; rw [g.N]; exact g.nd) g.calm (stOk_blk s H _ C cl fp) h14) fun v σ H Q q => q
    · exact (it (g.blk s H _ C cl fp) h4).pts (chkEs_len h4) (of_decide_eq_true h6) h8
    · exact (ie (g.blk s H _ C cl fp) h2).pe
  | .cmp2 own own2 t ik as tests t2 ik2 as2 tests2 elt, X, sc, g, x, h => by
    have ind := fun {Y : Cx} {sd : Scope} (gY : Good T Φ k sd Y) {xs : List Expr} (h : chkEs T sd as xs = true) => snds as gY h
    have ind2 := fun {Y : Cx} {sd : Scope} (gY : Good T Φ k sd Y) {xs : List Expr} (h : chkEs T sd as2 xs = true) => snds as2 gY h
    have it := fun {Y : Cx} {sd : Scope} (gY : Good T Φ k sd Y) {xs : List Expr} (h : chkEs T sd tests xs = true) => snds tests gY h
    have it2 := fun {Y : Cx} {sd : Scope} (gY : Good T Φ k sd Y) {xs : List Expr} (h : chkEs T sd tests2 xs = true) => snds tests2 gY h
    have ie := fun {Y : Cx} {sd : Scope} (gY : Good T Φ k sd Y) {y : Expr} (h : chkE T sd elt y = true) => snd1 elt gY h
    cases x <;> simp only [chkE] at h <;> first | (cases h; done) | skip
    split at h <;> first | (cases h; done) | skip
    obtain ⟨h, r17⟩ := and2 h
    obtain ⟨h, r16⟩ := and2 h
    obtain ⟨h, r15⟩ := and2 h
    obtain ⟨h, r14⟩ := and2 h
    obtain ⟨h, r13⟩ := and2 h
    obtain ⟨h, r12⟩ := and2 h
    obtain ⟨h, r11⟩ := and2 h
    obtain ⟨h, r10⟩ := and2 h
    obtain ⟨h, r9⟩ := and2 h
    obtain ⟨h, r8⟩ := and2 h
    obtain ⟨h, r7⟩ := and2 h
    obtain ⟨h, r6⟩ := and2 h
    obtain ⟨h, r5⟩ := and2 h
    obtain ⟨h, r4⟩ := and2 h
    obtain ⟨h, r3⟩ := and2 h
    obtain ⟨r1, r2⟩ := and2 h
    obtain ⟨rfl, rfl⟩ := of_decide_eq_true r1
    have inl : ∀ {l m : List Nat}, l.all (fun i => m.contains i) = true → ∀ j, j ∈ l → j ∈ m := fun {l m} z j hj => by
      have := List.all_eq_true.mp z j hj
      simpa using this
    have hG : ∀ {t : Pat} {tg : Expr} {scope : Scope}, chkP T.N (stB scope) t tg = true → ∀ (s : Shared) (H : Hp) (C : Addr) (cl : List (Str × Addr)) (fp : List Addr), PG (X.blk s H scope (compEnvC scope cl C X.env) fp) tg (tG X.K t) := fun {t tg scope} z s H C cl fp => by
      rw [← g.N] at z
      exact PG.weak (snd_pat (X := X.blk s H _ (compEnvC _ cl C X.env) fp) (by show X.N.Nodup; rw [g.N]; exact g.nd) g.calm (stOk_blk s H _ C cl fp) z) fun v σ H Q q => q
    refine .plain (snd_lcmp2 g (ow := ownN T.N own) (own_map T.N own) (of_decide_eq_true r6) (by rw [g.N, g.scope]; exact blkOk_by r3) (chkI_set r2) (chkI_set r10) (snd_I g r2 (fun a y e z => ?_) fun xs z => (ind g z).pa) (inl r5) (inl r12) (inl r13) (hG r4) (fun s H C cl fp => ?_) (fun s H C cl fp => ?_) (hG r11) (fun s H C cl fp => ?_) fun s H C cl fp => ?_) rfl
    · subst e
      exact ((ind g (xs := [y]) (by simp [chkEs, z, chkE_star z])).one a y rfl rfl).pe
    · exact (it (g.blk s H _ C cl fp) r9).pts (chkEs_len r9) (of_decide_eq_true r8) r7
    · refine snd_I (g.blk s H _ C cl fp) r10 (fun a y e z => ?_) fun xs z => (ind2 (g.blk s H _ C cl fp) z).pa
      subst e
      exact ((ind2 (g.blk s H _ C cl fp) (xs := [y]) (by simp [chkEs, z, chkE_star z])).one a y rfl rfl).pe
    · exact (it2 (g.blk s H _ C cl fp) r16).pts (chkEs_len r16) (of_decide_eq_true r15) r14
    · exact (ie (g.blk s H _ C cl fp) r17).pe
  | .chain3 o1 o2 o3 a b c d, X, sc, g, x, h => by
    have ia := fun {y : Expr} (h : chkE T sc a y = true) => snd1 a g h
    have ib := fun {y : Expr} (h : chkE T sc b y = true) => snd1 b g h
    have ic := fun {y : Expr} (h : chkE T sc c y = true) => snd1 c g h
    have id := fun {y : Expr} (h : chkE T sc d y = true) => snd1 d g h
    cases x <;> simp only [chkE] at h <;> first | (cases h; done) | skip
    split at h <;> first | (cases h; done) | skip
    obtain ⟨h, r14⟩ := and2 h
    obtain ⟨h, r13⟩ := and2 h
    obtain ⟨h, r12⟩ := and2 h
    obtain ⟨h, r11⟩ := and2 h
    obtain ⟨h, r10⟩ := and2 h
    obtain ⟨h, r9⟩ := and2 h
    obtain ⟨h, r8⟩ := and2 h
    obtain ⟨h, r7⟩ := and2 h
    obtain ⟨h, r6⟩ := and2 h
    obtain ⟨h, r5⟩ := and2 h
    obtain ⟨h, r4⟩ := and2 h
    obtain ⟨h, r3⟩ := and2 h
    obtain ⟨r1, r2⟩ := and2 h
    exact ⟨snd_chain3 g (of_decide_eq_true r1) (of_decide_eq_true r2) (of_decide_eq_true r3) (last3_of r6) (ia r11).pe (ib r12).pe (ic r13).pe (id r14).pe, fun _ => snd_tchain3 g (of_decide_eq_true r1) (of_decide_eq_true r2) (of_decide_eq_true r3) (last3_of r6) (ia r11).pe (ib r12).pe (ic r13).pe (id r14).pe⟩
  | .dlit t es, X, sc, g, x, h => by
    have ind := fun {xs : List Expr} (h : chkEs T sc es xs = true) => snds es g h
    cases x <;> simp only [chkE] at h <;> first | (cases h; done) | skip
    obtain ⟨h1, h2⟩ := and2 h
    obtain ⟨h3, h4⟩ := and2 h1
    split at h2
    · rename_i xs hi
      exact .plain (snd_dlit g (ne_of_isEmpty h3) (of_decide_eq_true h4) hi (ind h2).each) rfl
    · cases h2
  | .dnew t, X, sc, g, x, h => by
    cases x <;> simp only [chkE] at h <;> first | (cases h; done) | skip
    obtain ⟨h1, h2⟩ := and2 h
    rename_i ks vs pos
    cases ks <;> cases vs <;> first | (cases h1; done) | (cases h2; done) | skip
    exact .plain snd_dnew rfl
  | .lsi tu ik as, X, sc, g, x, h => by
    have ind := fun {xs : List Expr} (h : chkEs T sc as xs = true) => snds as g h
    cases x <;> simp only [chkE] at h <;> first | (cases h; done) | skip
    split at h <;> first | (cases h; done) | skip
    obtain ⟨h1, h2⟩ := and2 h
    obtain ⟨h3, h4⟩ := and2 h1
    obtain rfl := of_decide_eq_true h3
    split at h2
    · exact .plain (snd_lsi1 g h4 h2 fun xs z => ⟨(ind z).pa, chkEs_star z⟩) rfl
    · exact .plain (snd_lsi2 g h4 h2 fun xs z => ⟨(ind z).pa, chkEs_star z⟩) rfl
    · cases h2
  | .frz a, X, sc, g, x, h => by
    simp only [chkE] at h
    exact ⟨snd_frz (snd1 a g h).pe, fun z => by simp [tstB] at z⟩
theorem snds : ∀ (as : List E) {X : Cx} {sc : Scope}, Good T Φ k sc X → ∀ {xs : List Expr}, chkEs T sc as xs = true → SndL T Φ X as xs
  | [], X, sc, g, xs, h => by
    obtain rfl := chkEs_nil h
    exact ⟨snd_nil, fun _ n => absurd rfl n, fun _ n => absurd rfl n, fun _ n => absurd rfl n, fun _ n => absurd rfl n, (fun a x e => by cases e), .nil, (fun a b x y e => by cases e)⟩
  | a :: as, X, sc, g, xs, h => by
    obtain ⟨y, ys, rfl, h1, h2, h3⟩ := chkEs_cons h
    have ha := snd1 a g h2
    have hs := snds as g h3
    refine ⟨snd_cons ha.pe hs.pa h1, fun pos _ => ?_, fun pos _ => ?_, fun pos _ ht => ?_, fun pos _ ht => ?_, fun b x e1 e2 => ?_, .cons ha.pe hs.each, fun b c x z e1 e2 => ?_⟩
    · cases as with
      | nil => obtain rfl := chkEs_nil h3; exact snd_and1 ha.pe
      | cons b bs =>
        obtain ⟨z, zs, rfl, _, _, _⟩ := chkEs_cons h3
        exact snd_and2 ha.pe (hs.and pos (by simp))
    · cases as with
      | nil => obtain rfl := chkEs_nil h3; exact snd_or1 ha.pe
      | cons b bs =>
        obtain ⟨z, zs, rfl, _, _, _⟩ := chkEs_cons h3
        exact snd_or2 ha.pe (hs.or pos (by simp))
    · have ht := and2 (show (tstB a && tstBs as) = true from ht)
      cases as with
      | nil => obtain rfl := chkEs_nil h3; exact snd_tand1 (ha.pt ht.1)
      | cons b bs =>
        obtain ⟨z, zs, rfl, _, _, _⟩ := chkEs_cons h3
        exact snd_tand2 (ha.pt ht.1) (hs.wand pos (by simp) ht.2)
    · have ht := and2 (show (tstB a && tstBs as) = true from ht)
      cases as with
      | nil => obtain rfl := chkEs_nil h3; exact snd_tor1 (ha.pt ht.1)
      | cons b bs =>
        obtain ⟨z, zs, rfl, _, _, _⟩ := chkEs_cons h3
        exact snd_tor2 (ha.pt ht.1) (hs.wor pos (by simp) ht.2)
    · cases e1
      cases e2
      exact ha
    · cases e1
      cases e2
      exact ⟨ha, hs.one c z rfl rfl⟩
theorem sndo : ∀ (a : Option E) {X : Cx} {sc : Scope}, Good T Φ k sc X → ∀ {x : Option Expr}, chkO T sc a x = true → PO X x (tOpt X.K (evopt Φ T.G a))
  | none, X, sc, g, x, h => by
    cases x with
    | none => exact snd_onone
    | some y => simp [chkO] at h
  | some a, X, sc, g, x, h => by
    cases x with
    | none => simp [chkO] at h
    | some y =>
      simp only [chkO] at h
      exact snd_osome (snd1 a g h).pe
end
end
end Sw
set_option maxHeartbeats 1000000
/-! Sw, part 18: statements. -/
namespace Sw
open PySem PySem.Spec PyProof.Rows L2
/-! ### which text -/
def isComp : Expr → Bool
  | .ListComp .. => true
  | .SetComp .. => true
  | .DictComp .. => true
  | _ => false
def isSeqT : Expr → Bool
  | .Tuple .. => true
  | .List .. => true
  | _ => false
def isTupV : Expr → Bool
  | .Tuple .. => true
  | _ => false
theorem sw_no {v : Expr} (h : isComp v = false) (tg : Option Expr) (l : Nat) (env : PySem.Env) : swapsWith v tg l env = pure false := by
  cases v <;> first | (cases h; done) | rfl
theorem swS_no {v tg : Expr} (h : isComp v = false) (l : Nat) (env : PySem.Env) : swapsWithSole [tg] v l env = pure false := sw_no h _ _ _
theorem swSt_no {v tg : Expr} (h : (isSeqT tg && isTupV v) = false) (env : PySem.Env) : swappedStores [tg] v env = pure none := by
  cases tg <;> first | rfl | (cases v <;> first | rfl | cases h)
def ownsN (scope : Scope) (y : Str) : Bool := scope.names.any fun (n, k) => n == y && (k == .local || k == .cell)
theorem sw_false {elt : Expr} {gs : List Comprehension} {scope : Scope} {pos py : Pos} {y : Str} {l : Nat} {env : PySem.Env} (h : (env.kindOf y == some .local && py.line == pos.line && !(ownsN scope y)) = false) :
    swapsWith (.ListComp elt gs scope pos) (some (.Name y py)) l env = pure false := by
  unfold swapsWith
  have e : (env.blockKind == .function && env.kindOf y == some .local && py.line == pos.line && !(scope.names.any fun (n, k) => n == y && (k == .local || k == .cell))) = false := by
    have h : (env.kindOf y == some .local && py.line == pos.line && !(scope.names.any fun (n, k) => n == y && (k == .local || k == .cell))) = false := h
    rw [Bool.and_assoc, Bool.and_assoc]
    rw [Bool.and_assoc] at h
    rw [h, Bool.and_false]
  show (pure _ : Sem Bool) = pure false
  exact congrArg pure e
def swapC (sc : Scope) (ts vs : List Expr) : Option (Option (List Str)) :=
  if !(ts.length == 2 || ts.length == 3) || vs.length != ts.length then some none
  else if vs.any fun | .Starred .. => true | _ => false then some none
  else
    if (ts.filterMap fun
      | .Name id pos => if sc.names.lookup id == some .local && pos.line == (ts.head?.map (·.pos.line)).getD 0 then some id else none
      | _ => none).length != ts.length || (ts.filterMap fun
      | .Name id pos => if sc.names.lookup id == some .local && pos.line == (ts.head?.map (·.pos.line)).getD 0 then some id else none
      | _ => none).eraseDups.length != (ts.filterMap fun
      | .Name id pos => if sc.names.lookup id == some .local && pos.line == (ts.head?.map (·.pos.line)).getD 0 then some id else none
      | _ => none).length then some none
    else if vs.all (foldedForSure 8) then some none
    else if vs.all (constantsAlone 8) then none
    else some (some (ts.filterMap fun
      | .Name id pos => if sc.names.lookup id == some .local && pos.line == (ts.head?.map (·.pos.line)).getD 0 then some id else none
      | _ => none))
theorem sw_pair {ts vs : List Expr} {kt k2 : Nat} {pt pt2 : Pos} {env : PySem.Env} {r : Option (List Str)} (hk : env.scope.kind = .function) (h : swapC env.scope ts vs = some r) : swappedStores [.Tuple ts kt pt] (.Tuple vs k2 pt2) env = pure r := by
  have hb : env.blockKind = .function := by unfold Env.blockKind; rw [hk]; rfl
  unfold swapC at h
  unfold swappedStores
  have e1 : (ScopeKind.function != ScopeKind.function) = false := by decide
  simp only [hb, e1, Bool.or_false]
  have ek : ∀ id, env.kindOf id = env.scope.names.lookup id := fun _ => rfl
  simp only [ek]
  split at h
  · rename_i c
    cases h
    exact if_pos c
  rename_i c
  refine (if_neg c).trans ?_
  split at h
  · rename_i c
    cases h
    exact if_pos c
  rename_i c
  refine (if_neg c).trans ?_
  split at h
  · rename_i c
    cases h
    exact if_pos c
  rename_i c
  refine (if_neg c).trans ?_
  split at h
  · rename_i c
    cases h
    exact if_pos c
  rename_i c
  refine (if_neg c).trans ?_
  split at h
  · cases h
  rename_i c
  cases h
  exact if_neg c

def nmsB (N : List Str) (st : Str → Bool) : List Nat → List Expr → Bool
  | [], [] => true
  | i :: is, x :: xs => chkP N st (.nm i) x && nmsB N st is xs
  | _, _ => false
/-- the ways of a store of several -/
def parB (sc : Scope) (ts vs : List Expr) : Bool := match swapC sc ts vs with
  | some none => true
  | some (some ns) => (match ts, vs with
    | [.Name y _, .Name z _], [_, _] => decide (ns = [y, z]) && lookB sc y .local && lookB sc z .local
    | [.Name y _, .Name z _, .Name w _], [_, _, _] => decide (ns = [y, z, w]) && lookB sc y .local && lookB sc z .local && lookB sc w .local
    | _, _ => false)
  | none => false
def tupNo (sc : Scope) (tg v : Expr) : Bool := match tg, v with
  | .Tuple ts _ _, .Tuple vs _ _ => decide (swapC sc ts vs = some none)
  | _, _ => false
def asgB (sc : Scope) (tg v : Expr) : Bool := match v with
  | .ListComp _ _ scope pos => (match tg with
    | .Name y py => !(decide (sc.names.lookup y = some .local) && py.line == pos.line && !(ownsN scope y))
    | .Tuple _ _ _ => true
    | _ => false)
  | v => !isComp v && (!(isSeqT tg && isTupV v) || tupNo sc tg v)
def swB (sc : Scope) (tg v : Expr) : Bool := match v, tg with
  | .ListComp _ _ scope pos, .Name y py => lookB sc y .local && py.line == pos.line && !(ownsN scope y)
  | _, _ => false
def isCmp : E → Bool
  | .cmp .. => true
  | .cmp2 .. => true
  | _ => false
def augOp : Op → Option Operator
  | .add => some .Add
  | .sub => some .Sub
  | _ => none
mutual
def chkT (W : Tab) (sc : Scope) : T → Stmt → Bool
  | .asg t a, s => (match s with
    | .Assign [tg] v _ => chkP W.N (stB sc) t tg && chkE W sc a v && (asgB sc tg v || (isCmp a && swB sc tg v))
    | _ => false)
  | .par is es, s => (match s with
    | .Assign [.Tuple ts _ _] (.Tuple vs _ _) _ => nmsB W.N (stB sc) is ts && decide is.Nodup && decide (is.length ≤ 20) && chkEs W sc es vs && parB sc ts vs
    | _ => false)
  | .aug i o a, s => (match s with
    | .AugAssign (.Name x _) op v _ => visB W.N sc i x && stB sc x && decide (augOp o = some op) && chkE W sc a v
    | _ => false)
  | .sto i k a, s => (match s with
    | .Assign [.Subscript (.Name x _) ix _] v _ => visB W.N sc i x && notSlice ix && chkE W sc k ix && chkE W sc a v && !isComp v
    | _ => false)
  | .augs i k o a, s => (match s with
    | .AugAssign (.Subscript (.Name x _) ix _) op v _ => visB W.N sc i x && notSlice ix && chkE W sc k ix && chkE W sc a v && decide (augOp o = some op)
    | _ => false)
  | .sto2 i k1 j k2 a b, s => (match s with
    | .Assign [.Tuple [.Subscript (.Name x _) ix _, .Subscript (.Name y _) iy _] _ _] (.Tuple [v, w] _ _) _ => visB W.N sc i x && visB W.N sc j y && notSlice ix && notSlice iy && chkE W sc k1 ix && chkE W sc k2 iy && chkE W sc a v && chkE W sc b w && notStar v && notStar w
    | _ => false)
  | .ex a, s => (match s with
    | .Expr v _ => chkE W sc a v && !isComp v
    | _ => false)
  | .ret a, s => (match s with
    | .Return (some v) _ => chkE W sc a v
    | _ => false)
  | .ret0, s => (match s with
    | .Return none _ => true
    | _ => false)
  | .ifs t a b, s => (match s with
    | .If c x y _ => chkE W sc t c && tstB t && chkTs W sc a x && chkTs W sc b y
    | _ => false)
  | .fors t k as body, s => (match s with
    | .For tg iter b [] _ => chkP W.N (stB sc) t tg && chkI sc (isTup tg) k (fun xs => chkEs W sc as xs) iter && chkTs W sc body b
    | _ => false)
  | .whl _ t body, s => (match s with
    | .While c b [] _ => chkE W sc t c && tstB t && chkTs W sc body b
    | _ => false)
  | .brk, s => (match s with
    | .Break _ => true
    | _ => false)
  | .cont, s => (match s with
    | .Continue _ => true
    | _ => false)
  | .pass, s => (match s with
    | .Pass _ => true
    | _ => false)
  | .never, _ => true
def chkTs (W : Tab) (sc : Scope) : List T → List Stmt → Bool
  | [], ss => ss.isEmpty
  | a :: as, ss => (match ss with
    | s :: ss => chkT W sc a s && chkTs W sc as ss
    | _ => false)
end
/-! ### readings -/
def ndOk (K : PySem.W.Frag) (l : List Nat) (D : Ends) (σ : L2.St) (H : Hp) (F : List Addr) (e' : En) : Fl → Prop
  | .nx => ∀ σ' H' F', EnvRep K H' σ' e' F' → F'.Nodup → Stp H F H' F' → Agr l σ σ' → D.nx σ' H'
  | .bk => ∀ σ' H' F', EnvRep K H' σ' e' F' → F'.Nodup → Stp H F H' F' → Agr l σ σ' → D.bk σ' H'
  | .ct => ∀ σ' H' F', EnvRep K H' σ' e' F' → F'.Nodup → Stp H F H' F' → Agr l σ σ' → D.ct σ' H'
  | .rt d => ∀ v σ' H' Fd F', Rep K H' v d Fd → EnvRep K H' σ' e' F' → (Fd ++ F').Nodup → Stp H F H' (Fd ++ F') → Agr l σ σ' → D.rt v H'
def tT (K : PySem.W.Frag) (f : En → Option (Fl × En)) (l : List Nat) : TS := fun D σ H => ∃ e F fl e', EnvRep K H σ e F ∧ F.Nodup ∧ f e = some (fl, e') ∧ ndOk K l D σ H F e' fl
section
variable {K : PySem.W.Frag} {l l' m : List Nat} {D D' : Ends} {σ σ1 : L2.St} {H H1 : Hp} {F F1 : List Addr} {e' : En} {fl : Fl}
/-- from a later place -/
theorem ndOk.step (h : ndOk K m D σ H F e' fl) (s : Stp H F H1 F1) (a : Agr l σ σ1) (hl : ∀ j, j ∈ l → j ∈ m) (hl' : ∀ j, j ∈ l' → j ∈ m) : ndOk K l' D σ1 H1 F1 e' fl := by
  cases fl with
  | nx => exact fun σ' H' F' r n q g => h σ' H' F' r n (s.trans q) ((a.mono hl).trans (g.mono hl'))
  | bk => exact fun σ' H' F' r n q g => h σ' H' F' r n (s.trans q) ((a.mono hl).trans (g.mono hl'))
  | ct => exact fun σ' H' F' r n q g => h σ' H' F' r n (s.trans q) ((a.mono hl).trans (g.mono hl'))
  | rt d => exact fun v σ' H' Fd F' r r2 n q g => h v σ' H' Fd F' r r2 n (s.trans q) ((a.mono hl).trans (g.mono hl'))
/-- other ends -/
theorem ndOk.ends (h : ndOk K l D σ H F e' fl) (h1 : fl = .nx → D'.nx = D.nx) (h2 : fl = .bk → D'.bk = D.bk) (h3 : fl = .ct → D'.ct = D.ct) (h4 : D'.rt = D.rt) : ndOk K l D' σ H F e' fl := by
  cases fl with
  | nx => exact fun σ' H' F' r n q g => by rw [h1 rfl]; exact h σ' H' F' r n q g
  | bk => exact fun σ' H' F' r n q g => by rw [h2 rfl]; exact h σ' H' F' r n q g
  | ct => exact fun σ' H' F' r n q g => by rw [h3 rfl]; exact h σ' H' F' r n q g
  | rt d => exact fun v σ' H' Fd F' r r2 n q g => by rw [h4]; exact h v σ' H' Fd F' r r2 n q g
end
/-- a body of a def -/
structure DefCx (X : Cx) : Prop where
  fn : X.fn = fun _ => true
  own : PassesOwn (model X.prog X.w) X.A X.env X.xe
  kind : X.env.scope.kind = .function
section
variable {T : Tab} {Φ : CallS} {k : Nat} {sc : Scope} {X : Cx}
theorem stOk_def (g : Good T Φ k sc X) (d : DefCx X) : StOk X (stB sc) := by
  refine ⟨fun x h => ?_, fun x h => .inl (by rw [d.fn])⟩
  unfold stB at h
  rw [Bool.or_eq_true] at h
  rw [g.scope]
  rcases h with h | h
  · exact .inl (look_of h)
  · exact .inr (look_of h)
theorem pat_def {t : Pat} {tg : Expr} (g : Good T Φ k sc X) (d : DefCx X) (h : chkP T.N (stB sc) t tg = true) : PG X tg (tG X.K t) :=
  snd_pat (by rw [g.N]; exact g.nd) g.calm (stOk_def g d) (by rw [g.N]; exact h)
theorem name_def {i : Nat} {tg : Expr} (g : Good T Φ k sc X) (d : DefCx X) (h : chkP T.N (stB sc) (.nm i) tg = true) : PG X tg (gName i) ∧ ∃ y pos, tg = .Name y pos ∧ X.N[i]? = some y ∧ stB sc y = true := by
  cases tg <;> simp only [chkP] at h <;> first | (cases h; done) | skip
  obtain ⟨h1, h2⟩ := and2 h
  have h1 := of_decide_eq_true h1
  have ok := stOk_def g d
  refine ⟨pg_name (by rw [g.N]; exact g.nd) (by rw [g.N]; exact h1) (ok.loc _ h2) (ok.fn _ h2), _, _, rfl, by rw [g.N]; exact h1, h2⟩
theorem assign1 {tg : Expr} {t : Pat} {st : Str → Bool} (h : chkP X.N st t tg = true) : (assignEach [tg] X.env).map (·.2) = [assign tg X.env] := by
  have : notStar tg = true := by
    cases tg <;> first | rfl | (cases t <;> simp [chkP] at h)
  rw [assign_of this] <;> rfl
/-- the readings of a store -/
theorem asg_imm {te : TE} {t : Pat} {D : Ends} {σ : L2.St} {H : Hp} {e e1 e2 : En} {F : List Addr} {a : E} {p : P} (he : EnvRep X.K H σ e F) (n : F.Nodup) (h1 : evo Φ T.G a e = some (.tmp (.imm p), e1)) (h2 : bindP t p e1 = some e2)
    (hQ : ndOk X.K (asgP t) D σ H F e2 .nx) : tAsg (tO X.K (evo Φ T.G a)) (tG X.K t) D σ H := by
  refine tO_mk he n h1 fun v H1 Fd F1 ox he1 n1 s1 => ?_
  obtain ⟨q1, rfl⟩ := (show Rep X.K H1 v (.imm p) Fd from ox).imm_of
  exact ⟨e1, F1, p, e2, he1, nd_right n1, q1, h2, fun σ' F' r nd sub ag => hQ σ' H1 F' r nd (stp_pick (stp_drop s1) sub) ag⟩
theorem asg_lst {i : Nat} {D : Ends} {σ : L2.St} {H : Hp} {e e1 : En} {F : List Addr} {a : E} {d : Sw.D} (he : EnvRep X.K H σ e F) (n : F.Nodup) (h1 : evo Φ T.G a e = some (.tmp d, e1))
    (hQ : ndOk X.K [i] D σ H F (e1.set i (some d)) .nx) : tO X.K (evo Φ T.G a) σ H fun v H1 => gName i v σ H1 D.nx := by
  refine tO_mk he n h1 fun v H1 Fd F1 ox he1 n1 s1 => ?_
  have ox : Rep X.K H1 v d Fd := ox
  obtain ⟨F', r1, r2, r3⟩ := he1.setD ox i
  exact hQ _ H1 F' r1 (r3 n1) (stp_pick s1 fun a z => List.mem_append.mpr (r2 a z)) agr_set
theorem ex_asg {t : Pat} {a : E} {e e' : En} {fl : Fl} (h : ex Φ T.G (.asg t a) e = some (fl, e')) : ∃ e1, fl = .nx ∧ ((∃ p, evo Φ T.G a e = some (.tmp (.imm p), e1) ∧ bindP t p e1 = some e') ∨
    ∃ i d, t = .nm i ∧ isImm d = false ∧ evo Φ T.G a e = some (.tmp d, e1) ∧ e' = e1.set i (some d)) := by
  simp only [ex] at h
  obtain ⟨⟨o, e1⟩, h1, h⟩ := bind_some h
  obtain ⟨e2, h2, h⟩ := bind_some h
  cases h
  cases o with
  | slot i => cases h2
  | tmp d =>
    cases d with
    | imm p => exact ⟨e1, rfl, .inl ⟨p, h1, h2⟩⟩
    | lst ps =>
      cases t with
      | tp ts => cases h2
      | nm i =>
        cases h2
        exact ⟨e1, rfl, .inr ⟨i, _, rfl, rfl, h1, rfl⟩⟩
    | dic b kvs =>
      cases t with
      | tp ts => cases h2
      | nm i =>
        cases h2
        exact ⟨e1, rfl, .inr ⟨i, _, rfl, rfl, h1, rfl⟩⟩
theorem asgB_sw {tg v : Expr} {t : Pat} {st : Str → Bool} (g : Good T Φ k sc X) (dk : DefCx X) (h : asgB sc tg v = true) (l : Nat) : swapsWithSole [tg] v l X.env = pure false ∧ swappedStores [tg] v X.env = pure none := by
  unfold asgB at h
  split at h
  · split at h
    · rename_i y py
      refine ⟨sw_false (l := l) ?_, rfl⟩
      rw [Bool.not_eq_true'] at h
      have e : (X.env.kindOf y == some NameKind.local) = decide (sc.names.lookup y = some .local) := by
        unfold Env.kindOf
        rw [g.scope]
        cases hq : (sc.names.lookup y == some NameKind.local) with
        | true => rw [decide_eq_true (by simpa using hq)]
        | false => rw [decide_eq_false (by simpa using hq)]
      rw [e]
      exact h
    · exact ⟨rfl, rfl⟩
    · cases h
  · obtain ⟨h1, h2⟩ := and2 h
    rw [Bool.not_eq_true'] at h1
    rcases (Bool.or_eq_true _ _).mp h2 with h2 | h2
    · rw [Bool.not_eq_true'] at h2
      exact ⟨swS_no h1 _ _, swSt_no h2 _⟩
    · refine ⟨swS_no h1 _ _, ?_⟩
      unfold tupNo at h2
      split at h2
      · exact sw_pair dk.kind (by rw [g.scope]; exact of_decide_eq_true h2)
      · cases h2
theorem snd_asg {t : Pat} {a : E} {tg v : Expr} {pos : Pos} (g : Good T Φ k sc X) (d : DefCx X) (h1 : chkP T.N (stB sc) t tg = true) (h2 : chkE T sc a v = true) (h3 : asgB sc tg v = true) : PS X (.Assign [tg] v pos) (tT X.K (ex Φ T.G (.asg t a)) (asgP t)) := by
  obtain ⟨w1, w2⟩ := asgB_sw (t := t) (st := stB sc) g d h3 pos.line
  have w3 : (assignEach [tg] X.env).map (·.2) = [assign tg X.env] := assign1 (by rw [g.N]; exact h1)
  have hv := (snd1 a g h2).pe
  refine ⟨fun pins s σ H D I h => ?_⟩
  obtain ⟨e, F, fl, e', he, n, hf, hQ⟩ := h
  obtain ⟨e1, rfl, ⟨p, g1, g2⟩ | ⟨i, dd, rfl, _, g1, rfl⟩⟩ := ex_asg hf
  · exact (ps_asg hv (pat_def g d h1) w1 w2 w3).run pins s σ H D I (asg_imm (te := tO X.K (evo Φ T.G a)) he n g1 g2 hQ)
  · exact (ps_asg hv (name_def g d h1).1 w1 w2 w3).run pins s σ H D I (asg_lst he n g1 (by simpa [asgP] using hQ))
/-- a comprehension's parts -/
theorem cmp_of {own : List Nat} {t : Pat} {ik : IK} {as tests : List E} {elt : E} {v : Expr} (g : Good T Φ k sc X) (h : chkE T sc (.cmp own t ik as tests elt) v = true) :
    ∃ x tg iter ifs scope pos, v = .ListComp x [⟨tg, iter, ifs, 0⟩] scope pos ∧ PI X tg iter (tI X.K ik (evos Φ T.G as)) ∧ BlkOk X.N X.env.scope scope (ownN T.N own) ∧ notSet iter = true ∧ own.Nodup ∧ (∀ j ∈ asgP t, j ∈ own) ∧
      (∀ (s : Shared) (H : Hp) (C : Addr) (cl : List (Str × Addr)) (fp : List Addr), PG (X.blk s H scope (compEnvC scope cl C X.env) fp) tg (tG X.K t)) ∧
      (∀ (s : Shared) (H : Hp) (C : Addr) (cl : List (Str × Addr)) (fp : List Addr), PTs (X.blk s H scope (compEnvC scope cl C X.env) fp) ifs (tB X.K (evtests Φ T.G tests))) ∧
      (∀ (s : Shared) (H : Hp) (C : Addr) (cl : List (Str × Addr)) (fp : List Addr), PE (X.blk s H scope (compEnvC scope cl C X.env) fp) x (tO X.K (evo Φ T.G elt))) := by
  have ind := fun {xs : List Expr} (h : chkEs T sc as xs = true) => snds as g h
  cases v <;> simp only [chkE] at h <;> first | (cases h; done) | skip
  split at h <;> first | (cases h; done) | skip
  obtain ⟨h1, h2⟩ := and2 h
  obtain ⟨h3, h4⟩ := and2 h1
  obtain ⟨h5, h6⟩ := and2 h3
  obtain ⟨h7, h8⟩ := and2 h5
  obtain ⟨h9, h10⟩ := and2 h7
  obtain ⟨h11, h12⟩ := and2 h9
  obtain ⟨h13, h14⟩ := and2 h11
  obtain ⟨h15, h16⟩ := and2 h13
  obtain ⟨h17, h18⟩ := and2 h15
  obtain rfl := of_decide_eq_true h17
  refine ⟨_, _, _, _, _, _, rfl, snd_I g h18 (fun a y e z => ?_) (fun xs z => (ind z).pa), by rw [g.N, g.scope]; exact blkOk_by h16, chkI_set h18, of_decide_eq_true h10, fun j hj => ?_, fun s H C cl fp => ?_, fun s H C cl fp => ?_, fun s H C cl fp => ?_⟩
  · subst e
    exact ((ind (xs := [y]) (by simp [chkEs, z, chkE_star z])).one a y rfl rfl).pe
  · have := List.all_eq_true.mp h12 j hj
    simpa using this
  · have h14 : chkP T.N (stB _) t _ = true := h14
    rw [← g.N] at h14
    refine PG.weak (snd_pat (X := X.blk s H _ (compEnvC _ cl C X.env) fp) (by show X.N.Nodup; rw [g.N]; exact g.nd) g.calm (stOk_blk s H _ C cl fp) h14) fun v σ H Q q => q
  · exact (snds tests (g.blk s H _ C cl fp) h4).pts (chkEs_len h4) (of_decide_eq_true h6) h8
  · exact (snd1 elt (g.blk s H _ C cl fp) h2).pe
theorem snd_asgL {own : List Nat} {t2 t : Pat} {ik : IK} {as tests : List E} {elt : E} {tg v : Expr} {pos : Pos} (g : Good T Φ k sc X) (d : DefCx X) (h1 : chkP T.N (stB sc) t tg = true) (h2 : chkE T sc (.cmp own t2 ik as tests elt) v = true) (h3 : swB sc tg v = true) :
    PS X (.Assign [tg] v pos) (tT X.K (ex Φ T.G (.asg t (.cmp own t2 ik as tests elt))) (asgP t)) := by
  obtain ⟨x, tg2, iter, ifs, scope, pos2, rfl, c1, c2, c3, c4, c5, c6, c7, c8⟩ := cmp_of g h2
  refine ⟨fun pins s σ H D I h => ?_⟩
  obtain ⟨e, F, fl, e', he, n, hf, hQ⟩ := h
  obtain ⟨e1, rfl, ⟨p, g1, g2⟩ | ⟨i, dd, rfl, him, g1, rfl⟩⟩ := ex_asg hf
  · obtain ⟨_, _, _, _, _, _, _, _, _, _, _, e, _⟩ := evo_cmp g1
    cases e
  · obtain ⟨_, y, py, rfl, hN, _⟩ := name_def g d h1
    have h3 : (lookB sc y .local && py.line == pos2.line && !(ownsN scope y)) = true := h3
    obtain ⟨h4, h5⟩ := and2 h3
    obtain ⟨h6, h7⟩ := and2 h4
    have hl : X.env.scope.names.lookup y = some .local := by rw [g.scope]; exact look_of h6
    rw [Bool.not_eq_true'] at h5
    obtain ⟨_, _, _, _, acc, _, _, _, _, _, _, eqd, _⟩ := evo_cmp g1
    cases eqd
    refine (ps_setLc g.calm (by rw [g.N]; exact g.nd) hN hl (sw_true d.kind hl h7 h5) c1 c2 c6 c7 c8 (notSet_of c3 _)).run pins s σ H D I ?_
    exact lcmp_reads (own_map T.N own) c4 c5 (asg_lst (i := i) he n g1 (by simpa [asgP] using hQ))
theorem snd_asgL2 {own own2 : List Nat} {t t1 t2 : Pat} {ik ik2 : IK} {as as2 tests tests2 : List E} {elt : E} {tg v : Expr} {pos : Pos} (g : Good T Φ k sc X) (d : DefCx X) (h1 : chkP T.N (stB sc) t tg = true) (h : chkE T sc (.cmp2 own own2 t1 ik as tests t2 ik2 as2 tests2 elt) v = true) (h3 : swB sc tg v = true) :
    PS X (.Assign [tg] v pos) (tT X.K (ex Φ T.G (.asg t (.cmp2 own own2 t1 ik as tests t2 ik2 as2 tests2 elt))) (asgP t)) := by
  have ind := fun {Y : Cx} {sd : Scope} (gY : Good T Φ k sd Y) {xs : List Expr} (h : chkEs T sd as xs = true) => snds as gY h
  have ind2 := fun {Y : Cx} {sd : Scope} (gY : Good T Φ k sd Y) {xs : List Expr} (h : chkEs T sd as2 xs = true) => snds as2 gY h
  cases v <;> simp only [chkE] at h <;> first | (cases h; done) | skip
  split at h <;> first | (cases h; done) | skip
  rename_i scope pos2 _ tg0 iter ifs asy tg1 iter1 ifs1 asy1
  obtain ⟨h, r17⟩ := and2 h
  obtain ⟨h, r16⟩ := and2 h
  obtain ⟨h, r15⟩ := and2 h
  obtain ⟨h, r14⟩ := and2 h
  obtain ⟨h, r13⟩ := and2 h
  obtain ⟨h, r12⟩ := and2 h
  obtain ⟨h, r11⟩ := and2 h
  obtain ⟨h, r10⟩ := and2 h
  obtain ⟨h, r9⟩ := and2 h
  obtain ⟨h, r8⟩ := and2 h
  obtain ⟨h, r7⟩ := and2 h
  obtain ⟨h, r6⟩ := and2 h
  obtain ⟨h, r5⟩ := and2 h
  obtain ⟨h, r4⟩ := and2 h
  obtain ⟨h, r3⟩ := and2 h
  obtain ⟨r1, r2⟩ := and2 h
  obtain ⟨rfl, rfl⟩ := of_decide_eq_true r1
  have inl : ∀ {l m : List Nat}, l.all (fun i => m.contains i) = true → ∀ j, j ∈ l → j ∈ m := fun {l m} z j hj => by
    have := List.all_eq_true.mp z j hj
    simpa using this
  have hG : ∀ {t : Pat} {tg : Expr} {scope : Scope}, chkP T.N (stB scope) t tg = true → ∀ (s : Shared) (H : Hp) (C : Addr) (cl : List (Str × Addr)) (fp : List Addr), PG (X.blk s H scope (compEnvC scope cl C X.env) fp) tg (tG X.K t) := fun {t tg scope} z s H C cl fp => by
    rw [← g.N] at z
    exact PG.weak (snd_pat (X := X.blk s H _ (compEnvC _ cl C X.env) fp) (by show X.N.Nodup; rw [g.N]; exact g.nd) g.calm (stOk_blk s H _ C cl fp) z) fun v σ H Q q => q
  refine ⟨fun pins s σ H D I h => ?_⟩
  obtain ⟨e, F, fl, e', he, n, hf, hQ⟩ := h
  obtain ⟨e1, rfl, ⟨p, g1, g2⟩ | ⟨i, dd, rfl, him, g1, rfl⟩⟩ := ex_asg hf
  · obtain ⟨_, _, _, _, _, _, _, _, _, _, _, e, _⟩ := evo_cmp2 g1
    cases e
  · obtain ⟨_, y, py, rfl, hN, _⟩ := name_def g d h1
    have h3 : (lookB sc y .local && py.line == pos2.line && !(ownsN scope y)) = true := h3
    obtain ⟨h4, h5⟩ := and2 h3
    obtain ⟨h6, h7⟩ := and2 h4
    have hl : X.env.scope.names.lookup y = some .local := by rw [g.scope]; exact look_of h6
    rw [Bool.not_eq_true'] at h5
    refine (ps_setLc2 (wi1 := tI X.K ik2 (evos Φ T.G as2)) (tt := tB X.K (evtests Φ T.G tests)) (tt1 := tB X.K (evtests Φ T.G tests2)) (te := tO X.K (evo Φ T.G elt)) g.calm (by rw [g.N]; exact g.nd) hN hl (sw_true d.kind hl h7 h5) (snd_I g r2 (fun a y e z => ?_) fun xs z => (ind g z).pa) (by rw [g.N, g.scope]; exact blkOk_by r3) (vs1 := own2) (by rw [own_map]; exact inl r13) (hG r4) (fun s H C cl fp => ?_) (fun s H C cl fp => ?_) (hG r11) (fun s H C cl fp => ?_) (fun s H C cl fp => ?_) (notSet_of (chkI_set r2) _) (notSet_of (chkI_set r10))).run pins s σ H D I ?_
    · subst e
      exact ((ind g (xs := [y]) (by simp [chkEs, z, chkE_star z])).one a y rfl rfl).pe
    · exact (snds tests (g.blk s H _ C cl fp) r9).pts (chkEs_len r9) (of_decide_eq_true r8) r7
    · refine snd_I (g.blk s H _ C cl fp) r10 (fun a y e z => ?_) fun xs z => (ind2 (g.blk s H _ C cl fp) z).pa
      subst e
      exact ((ind2 (g.blk s H _ C cl fp) (xs := [y]) (by simp [chkEs, z, chkE_star z])).one a y rfl rfl).pe
    · exact (snds tests2 (g.blk s H _ C cl fp) r16).pts (chkEs_len r16) (of_decide_eq_true r15) r14
    · exact (snd1 elt (g.blk s H _ C cl fp) r17).pe
    · exact lcmp2_reads (own_map T.N own) (of_decide_eq_true r6) (inl r5) (inl r12) (inl r13) (asg_lst (i := i) he n g1 (by simpa [asgP] using hQ))
end
end Sw
set_option maxHeartbeats 1000000
/-! Sw, part 19: statements, on. -/
namespace Sw
open PySem PySem.Spec PyProof.Rows L2
section
variable {T : Tab} {Φ : CallS} {k : Nat} {sc : Scope} {X : Cx}
/-! ### several at once -/
def setsV : List Nat → List V → L2.St → L2.St
  | i :: is, v :: vs, σ => setsV is vs (σ.set i (some v))
  | _, _, σ => σ
theorem setAll_ok {K : PySem.W.Frag} {H : Hp} {σ0 : L2.St} : ∀ {is : List Nat} {vs : List V} {os : List Opd} {Fs : List Addr}, ORs K H σ0 vs os Fs → ∀ {σ : L2.St} {e e' : En} {F : List Addr}, EnvRep K H σ e F → (Fs ++ F).Nodup → setAll is os e = some e' →
    vs.length = is.length ∧ ∃ F', EnvRep K H (setsV is vs σ) e' F' ∧ F'.Nodup ∧ (∀ a, a ∈ F' → a ∈ Fs ++ F) ∧ Agr is σ (setsV is vs σ) := by
  intro is vs os Fs h
  induction h generalizing is with
  | nil =>
    intro σ e e' F he n hs
    cases is with
    | cons _ _ => cases hs
    | nil => cases hs; exact ⟨rfl, F, he, n, fun a z => z, Agr.refl _ _⟩
  | @cons v vs o os F0 G0 r _ ih =>
    intro σ e e' F he n hs
    cases is with
    | nil => cases o <;> cases hs
    | cons i is =>
      cases o with
      | slot _ => cases hs
      | tmp d =>
        have hs : setAll is os (e.set i (some d)) = some e' := hs
        have r : Rep K H v d F0 := r
        obtain ⟨F1, h1, h2, h3⟩ := he.setD r i
        rw [List.append_assoc] at n
        have n0 : (F0 ++ F).Nodup := nd_mk (nd_left n) (nd_right (nd_right n)) fun a z y => nd_off n a z (List.mem_append_right _ y)
        have nG : (G0 ++ F1).Nodup := nd_mk (nd_left (nd_right n)) (h3 n0) fun a z y => by
          rcases h2 a y with y | y
          · exact nd_off n a y (List.mem_append_left _ z)
          · exact nd_off (nd_right n) a z y
        obtain ⟨g1, F2, g2, g3, g4, g5⟩ := ih h1 nG hs
        refine ⟨by rw [List.length_cons, List.length_cons, g1], F2, g2, g3, fun a z => ?_, ?_⟩
        · rw [List.append_assoc]
          rcases List.mem_append.mp (g4 a z) with z | z
          · exact List.mem_append_right _ (List.mem_append_left _ z)
          · rcases h2 a z with z | z
            · exact List.mem_append_left _ z
            · exact List.mem_append_right _ (List.mem_append_right _ z)
        · exact (agr_set.mono fun j z => by rw [List.mem_singleton.mp z]; exact List.mem_cons_self).trans (g5.mono fun j z => List.mem_cons_of_mem _ z)
theorem ex_par {is : List Nat} {es : List E} {e e' : En} {fl : Fl} (h : ex Φ T.G (.par is es) e = some (fl, e')) : ∃ os e1, fl = .nx ∧ evos Φ T.G es e = some (os, e1) ∧ setAll is os e1 = some e' := by
  simp only [ex] at h
  obtain ⟨⟨os, e1⟩, h1, h⟩ := bind_some h
  obtain ⟨e2, h2, h⟩ := bind_some h
  cases h
  exact ⟨os, e1, rfl, h1, h2⟩
theorem par_reads {is : List Nat} {es : List E} {D : Ends} {σ : L2.St} {H : Hp} (h : tT X.K (ex Φ T.G (.par is es)) is D σ H) : tOs X.K (evos Φ T.G es) σ H fun vs H1 => vs.length = is.length ∧ D.nx (setsV is vs σ) H1 := by
  obtain ⟨e, F, fl, e', he, n, hf, hQ⟩ := h
  obtain ⟨os, e1, rfl, h1, h2⟩ := ex_par hf
  refine ⟨e, F, os, e1, he, n, h1, fun vs H1 Fs F1 rs he1 n1 s1 => ?_⟩
  obtain ⟨g1, F2, g2, g3, g4, g5⟩ := setAll_ok rs he1 n1 h2
  exact ⟨g1, hQ _ H1 F2 g2 g3 (stp_pick s1 g4) g5⟩
/-- plain: the tuple, then its parts -/
def gNms : List Nat → TGs
  | [] => gNil
  | i :: is => gCons (gName i) (gNms is)
theorem gNms_ok : ∀ {is : List Nat} {vs : List V} {σ : L2.St} {H : Hp} {Q : L2.St → Hp → Prop}, vs.length = is.length → Q (setsV is vs σ) H → gNms is vs σ H Q
  | [], [], σ, H, Q, _, q => ⟨rfl, q⟩
  | i :: is, v :: vs, σ, H, Q, hl, q => ⟨v, vs, rfl, gNms_ok (by simpa using hl) q⟩
  | [], _ :: _, _, _, _, hl, _ => by simp at hl
  | _ :: _, [], _, _, _, hl, _ => by simp at hl
theorem nms_ok (g : Good T Φ k sc X) (d : DefCx X) : ∀ {is : List Nat} {ts : List Expr}, nmsB T.N (stB sc) is ts = true → PGs X ts (gNms is) ∧ (assignEach ts X.env).length = is.length ∧ (assignEach ts X.env).findIdx? (·.1) = none
  | [], [], _ => ⟨pgs_nil, rfl, rfl⟩
  | i :: is, t :: ts, h => by
    obtain ⟨h1, h2⟩ := and2 (show (chkP T.N (stB sc) (.nm i) t && nmsB T.N (stB sc) is ts) = true from h)
    obtain ⟨a1, a2, a3⟩ := nms_ok g d h2
    obtain ⟨b1, y, pos, rfl, b2, b3⟩ := name_def g d h1
    exact ⟨pgs_cons b1 a1, by rw [show assignEach (.Name y pos :: ts) X.env = (false, assign (.Name y pos) X.env) :: assignEach ts X.env from rfl, List.length_cons, a2, List.length_cons], by
      rw [show assignEach (.Name y pos :: ts) X.env = (false, assign (.Name y pos) X.env) :: assignEach ts X.env from rfl, List.findIdx?_cons, a3] <;> rfl⟩
  | [], _ :: _, h => by cases h
  | _ :: _, [], h => by cases h
theorem nmsB_cons {N : List Str} {st : Str → Bool} {is : List Nat} {t : Expr} {ts : List Expr} (h : nmsB N st is (t :: ts) = true) : ∃ i js, is = i :: js ∧ chkP N st (.nm i) t = true ∧ nmsB N st js ts = true := by
  cases is with
  | nil => cases h
  | cons i js =>
    obtain ⟨h1, h2⟩ := and2 (show (chkP N st (.nm i) t && nmsB N st js ts) = true from h)
    exact ⟨i, js, rfl, h1, h2⟩
theorem nmsB_nil {N : List Str} {st : Str → Bool} {is : List Nat} (h : nmsB N st is [] = true) : is = [] := by
  cases is with
  | nil => rfl
  | cons _ _ => cases h
theorem name_st {i : Nat} {y : Str} {py : Pos} (g : Good T Φ k sc X) (d : DefCx X) (h : chkP T.N (stB sc) (.nm i) (.Name y py) = true) : X.N[i]? = some y := by
  obtain ⟨_, z, pz, e, n1, _⟩ := name_def g d h
  cases e
  exact n1
theorem snd_par {is : List Nat} {es : List E} {ts vs : List Expr} {kt k2 : Nat} {pt pt2 pos : Pos} (g : Good T Φ k sc X) (d : DefCx X) (h1 : nmsB T.N (stB sc) is ts = true) (h2 : is.Nodup) (hlen : is.length ≤ 20) (h3 : chkEs T sc es vs = true) (h4 : parB sc ts vs = true) :
    PS X (.Assign [.Tuple ts kt pt] (.Tuple vs k2 pt2) pos) (tT X.K (ex Φ T.G (.par is es)) is) := by
  have hv := (snds es g h3).pa
  have hN : X.N.Nodup := by rw [g.N]; exact g.nd
  unfold parB at h4
  split at h4
  · rename_i hw
    obtain ⟨a1, a2, a3⟩ := nms_ok g d h1
    refine PS.weak (ps_asg (pe_tup hv) (pg_tup (n := is.length) g.calm a1 a2 a3) (swS_no rfl _ _) (sw_pair d.kind (by rw [g.scope]; exact hw)) rfl) fun D σ H h => ?_
    obtain ⟨e0, F0, fl, e', he0, n0, hf0, hQ0⟩ := h
    obtain ⟨os', e1', rfl, k1, k2⟩ := ex_par hf0
    refine ⟨e0, F0, os', e1', he0, n0, k1, fun us H1 Fs F1 rs he1 n1 s1 => ?_⟩
    have hl : us.length = is.length := (setAll_ok rs he1 n1 k2).1
    refine ⟨by rw [sizeLine_is]; omega, fun p hp => ?_⟩
    have sm : Same H1 (upd H1 p (.tup us)) := same_new hp
    refine ⟨p, us, rfl, SqT.of upd_same, hl, ?_⟩
    have rs' := rs.mono (Keeps.of_same sm) (same_off sm rs.mut)
    obtain ⟨_, F2, g2, g3, g4, g5⟩ := setAll_ok rs' (he1.same sm) n1 k2
    exact gNms_ok hl (hQ0 _ _ F2 g2 g3 (stp_pick (s1.trans (Stp.of_same sm)) g4) g5)
  · rename_i ns hw
    split at h4
    · rename_i y py z pz v1 v2
      obtain ⟨h5, l3⟩ := and2 h4
      obtain ⟨h6, l1⟩ := and2 h5
      obtain rfl := of_decide_eq_true h6
      obtain ⟨i, js, rfl, c1, h1⟩ := nmsB_cons h1
      obtain ⟨j, js2, rfl, c3, h1⟩ := nmsB_cons h1
      obtain rfl := nmsB_nil h1
      refine PS.weak (ps_par g.calm hN (name_st g d c1) (name_st g d c3) (by simpa using h2) (by rw [g.scope]; exact look_of l1) (by rw [g.scope]; exact look_of l3) hv (sw_pair d.kind (by rw [g.scope]; exact hw)) (swS_no rfl _ _)) fun D σ H h => ?_
      obtain ⟨e, F, os, e1, he, n, hf, hQ⟩ := par_reads h
      refine ⟨e, F, os, e1, he, n, hf, fun us H1 Fs F1 rs he1 n1 s1 => ?_⟩
      obtain ⟨q1, q2⟩ := hQ us H1 Fs F1 rs he1 n1 s1
      match us, q1, q2 with
      | [u1, u2], _, q2 => exact ⟨u1, u2, rfl, q2⟩
    · rename_i y py z pz w pw v1 v2 v3
      obtain ⟨h5, l5⟩ := and2 h4
      obtain ⟨h6, l3⟩ := and2 h5
      obtain ⟨h7, l1⟩ := and2 h6
      obtain rfl := of_decide_eq_true h7
      obtain ⟨i, js, rfl, c1, h1⟩ := nmsB_cons h1
      obtain ⟨j, js2, rfl, c3, h1⟩ := nmsB_cons h1
      obtain ⟨l, js3, rfl, c5, h1⟩ := nmsB_cons h1
      obtain rfl := nmsB_nil h1
      have hd : i ≠ j ∧ i ≠ l ∧ j ≠ l := by
        simp only [List.nodup_cons, List.mem_cons, List.not_mem_nil, or_false, not_or] at h2
        exact ⟨h2.1.1, h2.1.2, h2.2.1⟩
      refine PS.weak (ps_par3 g.calm hN (name_st g d c1) (name_st g d c3) (name_st g d c5) hd.1 hd.2.1 hd.2.2 (by rw [g.scope]; exact look_of l1) (by rw [g.scope]; exact look_of l3) (by rw [g.scope]; exact look_of l5) hv (sw_pair d.kind (by rw [g.scope]; exact hw)) (swS_no rfl _ _)) fun D σ H h => ?_
      obtain ⟨e, F, os, e1, he, n, hf, hQ⟩ := par_reads h
      refine ⟨e, F, os, e1, he, n, hf, fun us H1 Fs F1 rs he1 n1 s1 => ?_⟩
      obtain ⟨q1, q2⟩ := hQ us H1 Fs F1 rs he1 n1 s1
      match us, q1, q2 with
      | [u1, u2, u3], _, q2 => exact ⟨u1, u2, u3, rfl, q2⟩
    · cases h4
  · cases h4
/-! ### x op= y -/
def rAug : R2 := fun x y H Q => (∃ i j : Int, x = .int i ∧ y = .int j ∧ Q (.int (i + j)) H) ∨ ∃ i j : Str, x = .str i ∧ y = .str j ∧ i.length + j.length ≤ sizeLine ∧ Q (.str (i ++ j)) H
def rAugS : R2 := fun x y H Q => ∃ i j : Int, x = .int i ∧ y = .int j ∧ Q (.int (i - j)) H
theorem pip_add : PIp X .Add rAug := fun pins s σ H x y v u Q I rx ry h => by
  rcases h with h | h
  · exact augR iop_add I rx ry h
  · exact augR iop_add_str I rx ry h
theorem pip_sub : PIp X .Sub rAugS := fun pins s σ H x y v u Q I rx ry h => augR iop_sub I rx ry h
theorem ex_aug {i : Nat} {o : Op} {a : E} {e e' : En} {fl : Fl} (h : ex Φ T.G (.aug i o a) e = some (fl, e')) : ∃ u y e1 du dy d, fl = .nx ∧ nmSem i e = some u ∧ evo Φ T.G a e = some (y, e1) ∧ resv e1 u = some du ∧ resv e1 y = some dy ∧ augSem o du dy = some d ∧ e' = e1.set i (some d) := by
  simp only [ex] at h
  obtain ⟨u, h1, h⟩ := bind_some h
  obtain ⟨⟨y, e1⟩, h2, h⟩ := bind_some h
  obtain ⟨ds, h3, h⟩ := bind_some h
  obtain ⟨d, h4, h⟩ := bind_some h
  cases h
  simp only [resvs] at h3
  obtain ⟨du, h5, h3⟩ := bind_some h3
  obtain ⟨ds2, h6, h3⟩ := bind_some h3
  obtain ⟨dy, h7, h6⟩ := bind_some h6
  simp only [Option.bind_some] at h6
  cases h6
  cases h3
  exact ⟨u, y, e1, du, dy, d, rfl, h1, h2, h5, h7, h4, rfl⟩
theorem snd_aug {i : Nat} {o : Op} {a : E} {x : Str} {v : Expr} {op : Operator} {p pos : Pos} (g : Good T Φ k sc X) (d : DefCx X) (h1 : visB T.N sc i x = true) (h2 : stB sc x = true) (h3 : augOp o = some op) (h4 : chkE T sc a v = true) :
    PS X (.AugAssign (.Name x p) op v pos) (tT X.K (ex Φ T.G (.aug i o a)) [i]) := by
  obtain ⟨v1, v2, v3, v4⟩ := vis_of h1
  have ok := stOk_def g d
  have hN : X.N.Nodup := by rw [g.N]; exact g.nd
  have hv := (snd1 a g h4).pe
  have hi : X.N[i]? = some x := by rw [g.N]; exact v1
  have red : ∀ {D : Ends} {σ : L2.St} {H : Hp} {ti : TIp}, (∀ {K : PySem.W.Frag} {H1 : Hp} {w z : V} {du dy dz : Sw.D} {Q : VK}, (∃ F, Rep K H1 w du F) → (∃ F, Rep K H1 z dy F) → augSem o du dy = some dz → (∀ r, PRep K H1 r (rd dz) → isImm dz = true → Q r H1) → ti w z H1 Q) →
      tT X.K (ex Φ T.G (.aug i o a)) [i] D σ H → tAug i (tO X.K (evo Φ T.G a)) ti D σ H := fun {D σ H ti} hti h => by
    obtain ⟨e, F, fl, e', he, n, hf, hQ⟩ := h
    obtain ⟨u, y, e1, du, dy, dz, rfl, k1, k2, k3, k4, k5, rfl⟩ := ex_aug hf
    unfold nmSem at k1
    split at k1
    · rename_i q hq
      cases k1
      cases k3
      obtain ⟨w, Fi, w1, w2, _⟩ := he.get hq
      obtain ⟨w3, rfl⟩ := w2.imm_of
      refine ⟨w, w1, tO_mk he n k2 fun z H1 Fd F1 ox he1 n1 s1 => ?_⟩
      have kp := s1.keeps he.mut
      refine hti ⟨[], Rep.imm (w3.keep kp)⟩ (resv_ok he1 ox k4) k5 fun r hr him => ?_
      cases dz with
      | lst _ => cases him
      | dic _ _ => cases him
      | imm pz =>
        obtain ⟨F2, g1, g2, g3⟩ := he1.setD (Rep.imm (show PRep X.K H1 r pz from hr)) i
        exact hQ _ H1 F2 g1 (g3 (nd_right n1)) (stp_pick (stp_drop s1) fun a z => (g2 a z).elim (fun z => nomatch z) id) agr_set
    · cases k1
      obtain ⟨w, Fi, w1, w2, _⟩ := he.get (by assumption)
      refine ⟨w, w1, tO_mk he n k2 fun z H1 Fd F1 ox he1 n1 s1 => ?_⟩
      obtain ⟨w', Fi', w1', w2', _⟩ := he1.get (show getE e1 i = some du from k3)
      rw [w1] at w1'
      cases w1'
      refine hti ⟨Fi', w2'⟩ (resv_ok he1 ox k4) k5 fun r hr him => ?_
      cases dz with
      | lst _ => cases him
      | dic _ _ => cases him
      | imm pz =>
        obtain ⟨F2, g1, g2, g3⟩ := he1.setD (Rep.imm (show PRep X.K H1 r pz from hr)) i
        exact hQ _ H1 F2 g1 (g3 (nd_right n1)) (stp_pick (stp_drop s1) fun a z => (g2 a z).elim (fun z => nomatch z) id) agr_set
    · cases k1
      obtain ⟨w, Fi, w1, w2, _⟩ := he.get (by assumption)
      refine ⟨w, w1, tO_mk he n k2 fun z H1 Fd F1 ox he1 n1 s1 => ?_⟩
      obtain ⟨w', Fi', w1', w2', _⟩ := he1.get (show getE e1 i = some du from k3)
      rw [w1] at w1'
      cases w1'
      refine hti ⟨Fi', w2'⟩ (resv_ok he1 ox k4) k5 fun r hr him => ?_
      cases dz with
      | lst _ => cases him
      | dic _ _ => cases him
      | imm pz =>
        obtain ⟨F2, g1, g2, g3⟩ := he1.setD (Rep.imm (show PRep X.K H1 r pz from hr)) i
        exact hQ _ H1 F2 g1 (g3 (nd_right n1)) (stp_pick (stp_drop s1) fun a z => (g2 a z).elim (fun z => nomatch z) id) agr_set
    · cases k1
  cases o <;> first | (cases h3; done) | (cases h3)
  · refine PS.weak (ps_aug hN hi (ok.loc _ h2) hv pip_add (ok.fn _ h2)) fun D σ H h => red (fun {K H1 w z du dy dz Q} r1 r2 hs hq => ?_) h
    obtain ⟨_, r1⟩ := r1
    obtain ⟨_, r2⟩ := r2
    unfold augSem at hs
    split at hs
    · obtain rfl := r1.int_of
      obtain rfl := r2.int_of
      cases hs
      exact .inl ⟨_, _, rfl, rfl, hq _ (.int _) rfl⟩
    · split at hs
      · rename_i hl
        obtain ⟨rfl, c1⟩ := r1.str_of
        obtain ⟨rfl, c2⟩ := r2.str_of
        cases hs
        refine .inr ⟨_, _, rfl, rfl, by rw [sOf_len, sOf_len]; exact le_line hl, ?_⟩
        rw [sOf_app]
        exact hq _ (.str _ (chrOk_app c1 c2)) rfl
      · cases hs
    · rename_i e
      cases e
    · cases hs
  · refine PS.weak (ps_aug hN hi (ok.loc _ h2) hv pip_sub (ok.fn _ h2)) fun D σ H h => red (fun {K H1 w z du dy dz Q} r1 r2 hs hq => ?_) h
    obtain ⟨_, r1⟩ := r1
    obtain ⟨_, r2⟩ := r2
    unfold augSem at hs
    split at hs
    · rename_i e
      cases e
    · rename_i e
      cases e
    · obtain rfl := r1.int_of
      obtain rfl := r2.int_of
      cases hs
      exact ⟨_, _, rfl, rfl, hq _ (.int _) rfl⟩
    · cases hs
/-! ### x[i] = y -/
theorem ex_sto {i : Nat} {q a : E} {e e' : En} {fl : Fl} (h : ex Φ T.G (.sto i q a) e = some (fl, e')) : ∃ x e1 p d0 y e2 z, fl = .nx ∧ evo Φ T.G a e = some (x, e1) ∧ immO x = some p ∧ getE e1 i = some d0 ∧ evo Φ T.G q e1 = some (y, e2) ∧ immO y = some z ∧ stoSem i z p e2 = some e' := by
  simp only [ex] at h
  obtain ⟨⟨x, e1⟩, h1, h⟩ := bind_some h
  obtain ⟨p, h2, h⟩ := bind_some h
  obtain ⟨d0, h3, h⟩ := bind_some h
  obtain ⟨⟨y, e2⟩, h4, h⟩ := bind_some h
  obtain ⟨z, h5, h⟩ := bind_some h
  obtain ⟨e3, h6, h⟩ := bind_some h
  cases h
  exact ⟨x, e1, p, d0, y, e2, z, rfl, h1, h2, h3, h4, h5, h6⟩
def rSetD : TSet := fun o i v H Q => rSetL o i v H Q ∨ ∃ a H', o = .ref a ∧ DPut H a i v H' ∧ Q H'
theorem set_D {X : Cx} (hu : X.A.units + 64 < cLine) : PSet X rSetD := by
  intro pins s σ H o i v ov iv u Q I ro ri rv h
  rcases h with h | ⟨a, H', rfl, g, q⟩
  · exact set_list pins s σ H o i v ov iv u Q I ro ri rv h
  · obtain rfl : ov = Value.ref a := ro
    exact d_setItem (by omega) I g ri rv fun s' I' => ⟨H', I', q⟩
def rGetD (K : PySem.W.Frag) : V → V → Hp → VK → Prop := fun o i H Q => (∃ p xs k v, o = .ref p ∧ i = .int k ∧ H p = some (.lst xs) ∧ atI xs k = some v ∧ Q v H) ∨ ∃ a v, o = .ref a ∧ DGet H a i (some v) ∧ Q v H
theorem get_D {X : Cx} (hu : X.A.units + 64 < cLine) : PGet X (rGetD X.K) := by
  intro pins s σ H o i ov iv Q I ro ri h
  rcases h with ⟨p, xs, k, w, rfl, rfl, hp, hat, q⟩ | ⟨a, v, rfl, g, q⟩
  · obtain rfl : ov = Value.ref p := ro
    obtain ⟨t, rfl⟩ := ri
    obtain ⟨its, r, pl, hz⟩ := I.list (SqL.of hp)
    obtain ⟨j, h1, h2, h3, h4, h5⟩ := atI_get hat
    obtain ⟨w', ew, rw'⟩ := r.get h2
    have hl := r.length
    have hn := line63
    have fin : EP X pins σ Q w' s := ⟨w, H, I, rw', q⟩
    by_cases h0 : 0 ≤ k
    · have hj : k.toNat = j := by
        rw [seqIndex_of h0 h5] at h1
        exact Option.some.inj h1
      exact wpAny_getItem_list pl.isList h0 (by omega) (by rw [hj]; simpa using ew) fin
    · have hj : (k + (its.toArray.size : Int)).toNat = j := by
        rw [seqIndex_neg (by omega) h4] at h1
        rw [List.size_toArray, ← hl]
        exact Option.some.inj h1
      exact wpAny_getItem_list_neg pl.isList (by omega) (by rw [List.size_toArray] <;> omega) (by omega) (by rw [hj]; simpa using ew) fin
  · obtain rfl : ov = Value.ref a := ro
    exact d_getItem (by omega) I g ri fun w' s' I' rw' => ⟨v, H, I', rw', q⟩
theorem dic_out {K : PySem.W.Frag} {H : Hp} {σ : L2.St} {e : En} {F : List Addr} {i : Nat} {a : Addr} {F' : List Addr} {d : D} {o o' : HO} (h1 : σ[i]? = some (some (.ref a))) (h3 : EnvRep K H σ (e.set i none) F') (h4 : ∀ b, b ∈ [a] ++ F' → b ∈ F) (h5 : ([a] ++ F').Nodup) (e0 : H a = some o) (mo : Mut (some o))
    (r : ∀ {H'}, Keeps H H' → H' a = some o' → Rep K H' (.ref a) d [a]) : ∃ F2, EnvRep K (upd H a o') σ (e.set i (some d)) F2 ∧ F2.Nodup ∧ Stp H F (upd H a o') F2 := by
  have kp : Keeps H (upd H a o') := fun b u eb st => by
    rw [upd_ne (fun z => by subst z; rw [e0] at eb; cases eb; exact st mo)]; exact eb
  have h3' : EnvRep K (upd H a o') σ (e.set i none) F' := h3.mono kp fun b z => upd_ne fun y => by
    subst y
    exact nd_off h5 b (List.mem_singleton.mpr rfl) z
  obtain ⟨F2, k1, k2, k3⟩ := h3'.into h1 (r kp upd_same)
  have aF : a ∈ F := h4 a (List.mem_append_left _ (List.mem_singleton.mpr rfl))
  exact ⟨F2, k1, k3 h5, lock_stp aF fun c z => h4 c ((k2 c).mp z)⟩
theorem sto_ok {K : PySem.W.Frag} {H : Hp} {σ : L2.St} {e e' : En} {F : List Addr} {i : Nat} {q p : P} {v0 u w : V} (he : EnvRep K H σ e F) (n : F.Nodup) (q1 : σ[i]? = some (some v0)) (ru : PRep K H u q) (rw : PRep K H w p) (hs : stoSem i q p e = some e') {Q : Hp → Prop}
    (hQ : ∀ H' F', EnvRep K H' σ e' F' → F'.Nodup → Stp H F H' F' → Q H') : rSetD v0 u w H Q := by
  unfold stoSem at hs
  cases hk : getE e i with
  | none => rw [hk] at hs; cases hs
  | some d =>
    rw [hk] at hs
    cases d with
    | imm p0 => cases hs
    | lst xs =>
      cases q <;> first | (cases hs; done) | skip
      rename_i j
      have hs : ((ixP xs.length j).bind fun n => some (e.set i (some (Sw.D.lst (xs.set n p))))) = some e' := hs
      obtain ⟨m, m1, m2⟩ := bind_some hs
      cases m2
      cases ru
      obtain ⟨a0, vs0, a1, a2, a3, a4, a5⟩ := he.write n hk
      rw [q1] at a1
      cases a1
      obtain ⟨F3, b1, b2, b3, b4⟩ := a5 (vs0.set m w) (xs.set m p) (a3.set rw m)
      exact .inl ⟨a0, vs0, j, m, rfl, rfl, a2, by rw [a3.length, ← ixP_eq]; exact m1, hQ _ F3 b1 b2 b4⟩
    | dic t kvs =>
      have hs : (if keyOk t q = true ∧ kvs.length < line then some (e.set i (some (Sw.D.dic t (putKV kvs q p)))) else none) = some e' := hs
      split at hs
      · rename_i c
        obtain ⟨c1, c2⟩ := c
        cases hs
        obtain ⟨v, Fi, F', h1, h2, h3, h4, h5⟩ := he.out hk
        rw [q1] at h1
        cases h1
        have n5 := h5 n
        cases h2 with
        | @dicK a kv _ e0 r =>
          obtain ⟨k, rfl, hkk⟩ := key_of_prep c1 ru
          have hl : kv.length < sizeLine := by rw [DP.length r]; exact lt_line c2
          obtain ⟨F2, k1, k2, k3⟩ := dic_out (d := .dic false (putKV kvs q p)) (o' := .dK (putK kv k w)) q1 h3 h4 n5 e0 trivial fun kp ea => Rep.dicK ea (DP.put KRep.inj hkk (rw.keep kp) (Paired.mapP r fun x y z => ⟨z.1, z.2.keep kp⟩))
          exact .inr ⟨a, _, rfl, .inl ⟨kv, k, e0, rfl, hl, rfl⟩, hQ _ F2 k1 k2 k3⟩
        | @dicT a kv _ e0 r =>
          cases ru <;> first | (cases c1; done) | skip
          rename_i b xs ps eb qx
          obtain ⟨ks, rfl, hks⟩ := keys_of_preps c1 qx
          have hl : kv.length < sizeLine := by rw [DP.length r]; exact lt_line c2
          obtain ⟨F2, k1, k2, k3⟩ := dic_out (d := .dic true (putKV kvs (.tup ps) p)) (o' := .dT (putK kv ks w)) q1 h3 h4 n5 e0 trivial fun kp ea => Rep.dicT ea (DP.put TRep.inj (TRep.mk hks) (rw.keep kp) (Paired.mapP r fun x y z => ⟨z.1, z.2.keep kp⟩))
          exact .inr ⟨a, _, rfl, .inr ⟨kv, ks, b, e0, rfl, eb, hl, rfl⟩, hQ _ F2 k1 k2 k3⟩
      · cases hs
theorem snd_sto {i : Nat} {q a : E} {x : Str} {v ix : Expr} {p p2 pos : Pos} (g : Good T Φ k sc X) (h1 : visB T.N sc i x = true) (h2 : notSlice ix = true) (h3 : chkE T sc q ix = true) (h4 : chkE T sc a v = true) (h5 : isComp v = false) :
    PS X (.Assign [.Subscript (.Name x p) ix p2] v pos) (tT X.K (ex Φ T.G (.sto i q a)) []) := by
  obtain ⟨v1, v2, v3, v4⟩ := vis_of h1
  have hx : PE X (.Name x p) (tVar i) := pe_var (i := i) (by rw [g.N]; exact v1) (by rw [g.scope]; exact v2) v3 v4
  have hv := (snd1 a g h4).pe
  have hq := (snd1 q g h3).pe
  refine PS.weak (ps_asg hv (pg_sub hx hq (set_D g.hu) (by intro v; cases ix <;> first | rfl | cases h2)) (swS_no h5 _ _) (swSt_no rfl _) rfl) fun D σ H h => ?_
  obtain ⟨e, F, fl, e', he, n, hf, hQ⟩ := h
  obtain ⟨xo, e1, p, d0, y, e2, z, rfl, k1, k2, k3, k4, k5, k6⟩ := ex_sto hf
  refine tO_mk he n k1 fun w H1 Fd F1 ox he1 n1 s1 => ?_
  obtain ⟨w1, rfl⟩ := immO_ok ox k2
  rw [List.nil_append] at n1 s1
  obtain ⟨v0, Fi, q1, q2, _⟩ := he1.get k3
  refine ⟨v0, q1, tO_mk he1 n1 k4 fun u H2 Fu F2 oy he2 n2 s2 => ?_⟩
  obtain ⟨u1, rfl⟩ := immO_ok oy k5
  rw [List.nil_append] at n2 s2
  have w2 := w1.keep (s2.keeps he1.mut)
  exact sto_ok he2 n2 q1 u1 w2 k6 fun H' F' r1 r2 r3 => hQ _ _ F' r1 r2 ((s1.trans s2).trans r3) (Agr.refl _ _)
/-! ### x[i] op= y -/
theorem ex_augs {i : Nat} {q a : E} {o : Op} {e e' : En} {fl : Fl} (h : ex Φ T.G (.augs i q o a) e = some (fl, e')) : ∃ d0 y e1 z d1 old x e2 dx new p, fl = .nx ∧ getE e i = some d0 ∧ evo Φ T.G q e = some (y, e1) ∧ immO y = some z ∧ getE e1 i = some d1 ∧ (if isImm d1 then none else opSem .idx [d1, .imm z]) = some old ∧ evo Φ T.G a e1 = some (x, e2) ∧ resv e2 x = some dx ∧ augSem o old dx = some new ∧ toImm new = some p ∧ stoSem i z p e2 = some e' := by
  simp only [ex] at h
  obtain ⟨d0, h1, h⟩ := bind_some h
  obtain ⟨⟨y, e1⟩, h2, h⟩ := bind_some h
  obtain ⟨z, h3, h⟩ := bind_some h
  obtain ⟨d1, h4, h⟩ := bind_some h
  obtain ⟨old, h5, h⟩ := bind_some h
  obtain ⟨⟨x, e2⟩, h6, h⟩ := bind_some h
  obtain ⟨dx, h7, h⟩ := bind_some h
  obtain ⟨new, h8, h⟩ := bind_some h
  obtain ⟨p, h9, h⟩ := bind_some h
  obtain ⟨e3, h10, h⟩ := bind_some h
  cases h
  exact ⟨d0, y, e1, z, d1, old, x, e2, dx, new, p, rfl, h1, h2, h3, h4, h5, h6, h7, h8, h9, h10⟩
theorem aug_reads {i : Nat} {q a : E} {o : Op} {ti : TIp} {D : Ends} {σ : L2.St} {H : Hp} (hti : ∀ {H1 : Hp} {w z : V} {du dy dz : Sw.D} {Q : VK}, (∃ F, Rep X.K H1 w du F) → (∃ F, Rep X.K H1 z dy F) → augSem o du dy = some dz → (∀ r, PRep X.K H1 r (rd dz) → isImm dz = true → Q r H1) → ti w z H1 Q)
    (h : tT X.K (ex Φ T.G (.augs i q o a)) [] D σ H) : tAugS (tVar i) (tO X.K (evo Φ T.G q)) (tO X.K (evo Φ T.G a)) (rGetD X.K) ti rSetD D σ H := by
  obtain ⟨e, F, fl, e', he, n, hf, hQ⟩ := h
  obtain ⟨d0, y, e1, z, d1, old, x, e2, dx, new, p, rfl, k1, k2, k3, k4, k5, k6, k7, k8, k9, k10⟩ := ex_augs hf
  obtain ⟨v0, Fi, q1, q2, _⟩ := he.get k1
  refine ⟨v0, q1, tO_mk he n k2 fun u H1 Fd F1 ox he1 n1 s1 => ?_⟩
  obtain ⟨u1, rfl⟩ := immO_ok ox k3
  rw [List.nil_append] at n1 s1
  obtain ⟨v0', Fi', w1, w2, _⟩ := he1.get k4
  rw [q1] at w1
  cases w1
  have go : ∀ w : V, PRep X.K H1 w (rd old) → isImm old = true → tO X.K (evo Φ T.G a) σ H1 fun y H4 => ti w y H4 fun z H5 => rSetD v0 u z H5 fun H6 => D.nx σ H6 := fun w rw him => by
    refine tO_mk he1 n1 k6 fun y2 H2 Fy F2 oy he2 n2 s2 => ?_
    have kp := s2.keeps he1.mut
    have hro : ∃ F, Rep X.K H2 w old F := by
      cases old with
      | imm po => exact ⟨[], Rep.imm ((show PRep X.K H1 w po from rw).keep kp)⟩
      | lst _ => cases him
      | dic _ _ => cases him
    refine hti hro (resv_ok he2 oy k7) k8 fun r hr him2 => ?_
    cases new with
    | lst _ => cases him2
    | dic _ _ => cases him2
    | imm pn =>
      cases k9
      exact sto_ok he2 (nd_right n2) q1 (u1.keep kp) hr k10 fun H' F' r1 r2 r3 => hQ _ _ F' r1 r2 ((s1.trans (stp_drop s2)).trans r3) (Agr.refl _ _)
  cases d1 with
  | imm p1 => cases k5
  | lst xs =>
    have k5 : opIdx (.lst xs) (.imm z) = some old := k5
    obtain ⟨j, rfl⟩ : ∃ j, z = .int j := by cases z <;> first | (cases k5; done) | exact ⟨_, rfl⟩
    obtain ⟨p0, g1, g2⟩ := bind_some (show (atP xs j).bind (fun p => some (Sw.D.imm p)) = some old from k5)
    cases g2
    obtain ⟨a0, vs, rfl, m1, m2, _⟩ := w2.lst_of
    cases u1
    obtain ⟨w, g3, g4⟩ := m2.at_ g1
    exact .inl ⟨a0, vs, j, w, rfl, rfl, m1, g3, go w g4 rfl⟩
  | dic t kvs =>
    have k5 : (if keyOk t z then (getKV kvs z).bind fun v => some (Sw.D.imm v) else none) = some old := k5
    split at k5
    · rename_i c
      obtain ⟨p0, g1, g2⟩ := bind_some k5
      cases g2
      obtain ⟨a0, oo, rfl, g3, _, ⟨w, q', rfl, h3, h4⟩ | ⟨_, h3⟩⟩ := dget_of w2 (Rep.imm u1) c
      · rw [g1] at h3
        cases h3
        exact .inr ⟨a0, w, rfl, g3, go w h4 rfl⟩
      · rw [g1] at h3; cases h3
    · cases k5
theorem red_add {K : PySem.W.Frag} {H1 : Hp} {w z : V} {du dy dz : Sw.D} {Q : VK} (r1 : ∃ F, Rep K H1 w du F) (r2 : ∃ F, Rep K H1 z dy F) (hs : augSem .add du dy = some dz) (hq : ∀ r, PRep K H1 r (rd dz) → isImm dz = true → Q r H1) : rAug w z H1 Q := by
  obtain ⟨_, r1⟩ := r1
  obtain ⟨_, r2⟩ := r2
  unfold augSem at hs
  split at hs
  · obtain rfl := r1.int_of
    obtain rfl := r2.int_of
    cases hs
    exact .inl ⟨_, _, rfl, rfl, hq _ (.int _) rfl⟩
  · split at hs
    · rename_i hl
      obtain ⟨rfl, c1⟩ := r1.str_of
      obtain ⟨rfl, c2⟩ := r2.str_of
      cases hs
      refine .inr ⟨_, _, rfl, rfl, by rw [sOf_len, sOf_len]; exact le_line hl, ?_⟩
      rw [sOf_app]
      exact hq _ (.str _ (chrOk_app c1 c2)) rfl
    · cases hs
  · rename_i e
    cases e
  · cases hs
theorem red_sub {K : PySem.W.Frag} {H1 : Hp} {w z : V} {du dy dz : Sw.D} {Q : VK} (r1 : ∃ F, Rep K H1 w du F) (r2 : ∃ F, Rep K H1 z dy F) (hs : augSem .sub du dy = some dz) (hq : ∀ r, PRep K H1 r (rd dz) → isImm dz = true → Q r H1) : rAugS w z H1 Q := by
  obtain ⟨_, r1⟩ := r1
  obtain ⟨_, r2⟩ := r2
  unfold augSem at hs
  split at hs
  · rename_i e
    cases e
  · rename_i e
    cases e
  · obtain rfl := r1.int_of
    obtain rfl := r2.int_of
    cases hs
    exact ⟨_, _, rfl, rfl, hq _ (.int _) rfl⟩
  · cases hs
theorem snd_augs {i : Nat} {q a : E} {o : Op} {op : Operator} {x : Str} {v ix : Expr} {p p2 pos : Pos} (g : Good T Φ k sc X) (h1 : visB T.N sc i x = true) (h2 : notSlice ix = true) (h3 : chkE T sc q ix = true) (h4 : chkE T sc a v = true) (h5 : augOp o = some op) :
    PS X (.AugAssign (.Subscript (.Name x p) ix p2) op v pos) (tT X.K (ex Φ T.G (.augs i q o a)) []) := by
  obtain ⟨v1, v2, v3, v4⟩ := vis_of h1
  have hx : PE X (.Name x p) (tVar i) := pe_var (i := i) (by rw [g.N]; exact v1) (by rw [g.scope]; exact v2) v3 v4
  have hv := (snd1 a g h4).pe
  have hq := (snd1 q g h3).pe
  have hst : ∀ ov iv new, augStore ix ov iv new = (do holding [new, ov, iv] (setItem ov iv new); release [new, ov, iv] []; pure .next) := by
    intro ov iv new
    cases ix <;> first | rfl | cases h2
  cases o <;> first | (cases h5; done) | (cases h5)
  · exact PS.weak (ps_augS hx hq (get_D g.hu) hv pip_add (set_D g.hu) hst) fun D σ H h => aug_reads (fun {H1 w z du dy dz Q} => red_add) h
  · exact PS.weak (ps_augS hx hq (get_D g.hu) hv pip_sub (set_D g.hu) hst) fun D σ H h => aug_reads (fun {H1 w z du dy dz Q} => red_sub) h
/-! ### x[i], y[j] = a, b -/
theorem ex_sto2 {i j : Nat} {k1 k2 a b : E} {e e' : En} {fl : Fl} (h : ex Φ T.G (.sto2 i k1 j k2 a b) e = some (fl, e')) : ∃ x e1 p y e2 q d0 z e3 r e4 d1 w e5 t, fl = .nx ∧ evo Φ T.G a e = some (x, e1) ∧ immO x = some p ∧ evo Φ T.G b e1 = some (y, e2) ∧ immO y = some q ∧
    getE e2 i = some d0 ∧ evo Φ T.G k1 e2 = some (z, e3) ∧ immO z = some r ∧ stoSem i r p e3 = some e4 ∧ getE e4 j = some d1 ∧ evo Φ T.G k2 e4 = some (w, e5) ∧ immO w = some t ∧ stoSem j t q e5 = some e' := by
  simp only [ex] at h
  obtain ⟨⟨x, e1⟩, h1, h⟩ := bind_some h
  obtain ⟨p, h2, h⟩ := bind_some h
  obtain ⟨⟨y, e2⟩, h3, h⟩ := bind_some h
  obtain ⟨q, h4, h⟩ := bind_some h
  obtain ⟨d0, h5, h⟩ := bind_some h
  obtain ⟨⟨z, e3⟩, h6, h⟩ := bind_some h
  obtain ⟨r, h7, h⟩ := bind_some h
  obtain ⟨e4, h8, h⟩ := bind_some h
  obtain ⟨d1, h9, h⟩ := bind_some h
  obtain ⟨⟨w, e5⟩, h10, h⟩ := bind_some h
  obtain ⟨t, h11, h⟩ := bind_some h
  obtain ⟨e6, h12, h⟩ := bind_some h
  cases h
  exact ⟨x, e1, p, y, e2, q, d0, z, e3, r, e4, d1, w, e5, t, rfl, h1, h2, h3, h4, h5, h6, h7, h8, h9, h10, h11, h12⟩
theorem swapC_sub (sc : Scope) (a b d e v w : Expr) (c f : Pos) : swapC sc [.Subscript a b c, .Subscript d e f] [v, w] = some none := by
  unfold swapC
  split
  · rfl
  · split
    · rfl
    · exact if_pos rfl
theorem snd_sto2 {i j : Nat} {k1 k2 a b : E} {x y : Str} {v w ix iy : Expr} {p p2 p3 p4 pos pt pt2 : Pos} {kt kt2 : Nat} (g : Good T Φ k sc X) (d : DefCx X) (h1 : visB T.N sc i x = true) (h2 : visB T.N sc j y = true) (h3 : notSlice ix = true) (h4 : notSlice iy = true) (h5 : chkE T sc k1 ix = true) (h6 : chkE T sc k2 iy = true) (h7 : chkE T sc a v = true) (h8 : chkE T sc b w = true) (h9 : notStar v = true) (h10 : notStar w = true) :
    PS X (.Assign [.Tuple [.Subscript (.Name x p) ix p2, .Subscript (.Name y p3) iy p4] kt pt] (.Tuple [v, w] kt2 pt2) pos) (tT X.K (ex Φ T.G (.sto2 i k1 j k2 a b)) []) := by
  obtain ⟨v1, v2, v3, v4⟩ := vis_of h1
  have hx : PE X (.Name x p) (tVar i) := pe_var (i := i) (by rw [g.N]; exact v1) (by rw [g.scope]; exact v2) v3 v4
  obtain ⟨u1, u2, u3, u4⟩ := vis_of h2
  have hy : PE X (.Name y p3) (tVar j) := pe_var (i := j) (by rw [g.N]; exact u1) (by rw [g.scope]; exact u2) u3 u4
  have hv := (snds [a, b] g (xs := [v, w]) (by simp [chkEs, h7, h8, h9, h10])).pa
  have hq1 := (snd1 k1 g h5).pe
  have hq2 := (snd1 k2 g h6).pe
  have gs : PGs X [.Subscript (.Name x p) ix p2, .Subscript (.Name y p3) iy p4] _ := pgs_cons (pg_sub hx hq1 (set_D g.hu) (by intro v; cases ix <;> first | rfl | cases h3)) (pgs_cons (pg_sub hy hq2 (set_D g.hu) (by intro v; cases iy <;> first | rfl | cases h4)) pgs_nil)
  refine PS.weak (ps_asg (pe_tup hv) (pg_tup (n := 2) g.calm gs rfl rfl) (swS_no rfl _ _) (sw_pair d.kind (swapC_sub _ _ _ _ _ _ _ _ _)) rfl) fun D σ H h => ?_
  obtain ⟨e, F, fl, e', he, n, hf, hQ⟩ := h
  obtain ⟨xo, e1, pa, yo, e2, qb, d0, zo, e3, r, e4, d1, wo, e5, t, rfl, m1, m2, m3, m4, m5, m6, m7, m8, m9, m10, m11, m12⟩ := ex_sto2 hf
  have hev : evos Φ T.G [a, b] e = some ([xo, yo], e2) := by
    simp only [evos, m1, m3, Option.bind_some]
  refine ⟨e, F, [xo, yo], e2, he, n, hev, fun us H1 Fs F1 rs he1 n1 s1 => ?_⟩
  obtain ⟨w1, w2, rfl, hw1, hw2, rfl⟩ : ∃ w1 w2, us = [w1, w2] ∧ PRep X.K H1 w1 pa ∧ PRep X.K H1 w2 qb ∧ Fs = [] := by
    cases rs with
    | cons ra rb =>
      cases rb with
      | cons rb rc =>
        cases rc
        obtain ⟨z1, rfl⟩ := immO_ok ra m2
        obtain ⟨z2, rfl⟩ := immO_ok rb m4
        exact ⟨_, _, rfl, z1, z2, rfl⟩
  rw [List.nil_append] at n1 s1
  refine ⟨by rw [sizeLine_is]; simp, fun pt hp => ?_⟩
  have sm : Same H1 (upd H1 pt (.tup [w1, w2])) := same_new hp
  refine ⟨pt, [w1, w2], rfl, SqT.of upd_same, rfl, ?_⟩
  have he2 := he1.same sm
  have s2 := s1.trans (Stp.of_same sm)
  have kp2 := Keeps.of_same sm
  obtain ⟨v0, Fi, q1, _, _⟩ := he2.get m5
  refine ⟨w1, [w2], rfl, v0, q1, tO_mk he2 n1 m6 fun u H3 Fu F3 ou he3 n3 s3 => ?_⟩
  obtain ⟨ur, rfl⟩ := immO_ok ou m7
  rw [List.nil_append] at n3 s3
  have kp3 := s3.keeps he2.mut
  refine sto_ok he3 n3 q1 ur ((hw1.keep kp2).keep kp3) m8 fun H4 F4 he4 n4 s4 => ?_
  have kp4 := s4.keeps he3.mut
  obtain ⟨v5, Fi5, q5, _, _⟩ := he4.get m9
  refine ⟨w2, [], rfl, v5, q5, tO_mk he4 n4 m10 fun u5 H5 Fu5 F5 ou5 he5 n5 s5 => ?_⟩
  obtain ⟨ur5, rfl⟩ := immO_ok ou5 m11
  rw [List.nil_append] at n5 s5
  have kp5 := s5.keeps he4.mut
  refine sto_ok he5 n5 q5 ur5 ((((hw2.keep kp2).keep kp3).keep kp4).keep kp5) m12 fun H6 F6 he6 n6 s6 => ?_
  exact ⟨rfl, hQ _ _ F6 he6 n6 ((((s2.trans s3).trans s4).trans s5).trans s6) (Agr.refl _ _)⟩
/-! ### small ones -/
theorem snd_ex {a : E} {v : Expr} {pos : Pos} (g : Good T Φ k sc X) (h1 : chkE T sc a v = true) (h2 : isComp v = false) : PS X (.Expr v pos) (tT X.K (ex Φ T.G (.ex a)) []) :=
  PS.weak (ps_expr (snd1 a g h1).pe (sw_no h2 _ _ _)) fun D σ H h => by
    obtain ⟨e, F, fl, e', he, n, hf, hQ⟩ := h
    simp only [ex] at hf
    obtain ⟨⟨x, e1⟩, h1, hf⟩ := bind_some hf
    cases hf
    exact tO_mk he n h1 fun v H1 Fd F1 ox he1 n1 s1 => hQ _ H1 F1 he1 (nd_right n1) (stp_drop s1) (Agr.refl _ _)
theorem snd_ret {a : E} {v : Expr} {pos : Pos} (g : Good T Φ k sc X) (h1 : chkE T sc a v = true) : PS X (.Return (some v) pos) (tT X.K (ex Φ T.G (.ret a)) []) :=
  PS.weak (ps_ret (snd1 a g h1).pe) fun D σ H h => by
    obtain ⟨e, F, fl, e', he, n, hf, hQ⟩ := h
    simp only [ex] at hf
    obtain ⟨⟨x, e1⟩, h1, hf⟩ := bind_some hf
    refine tO_mk he n h1 fun v H1 Fd F1 ox he1 n1 s1 => ?_
    cases x with
    | tmp d =>
      cases hf
      exact hQ v σ H1 Fd F1 ox he1 n1 s1 (Agr.refl _ _)
    | slot i =>
      obtain ⟨d, h2, h3⟩ := bind_some (show (getE e1 i).bind (fun d => some (Fl.rt d, e1.set i none)) = some (fl, e') from hf)
      cases h3
      obtain ⟨hi, rfl⟩ := (show σ[i]? = some (some v) ∧ Fd = [] from ox)
      obtain ⟨v', Fi, F', q1, q2, q3, q4, q5⟩ := he1.out h2
      rw [hi] at q1
      cases q1
      exact hQ v σ H1 Fi F' q2 q3 (q5 n1) (stp_pick s1 q4) (Agr.refl _ _)
theorem snd_ret0 {pos : Pos} : PS X (.Return none pos) (tT X.K (ex Φ T.G .ret0) []) := PS.weak ps_retN fun D σ H h => by
  obtain ⟨e, F, fl, e', he, n, hf, hQ⟩ := h
  simp only [ex, Option.some.injEq, Prod.mk.injEq] at hf
  obtain ⟨rfl, rfl⟩ := hf
  exact hQ .non σ H [] F (Rep.imm .non) he n (Stp.refl _ _) (Agr.refl _ _)
theorem snd_brk {pos : Pos} : PS X (.Break pos) (tT X.K (ex Φ T.G .brk) []) := PS.weak ps_break fun D σ H h => by
  obtain ⟨e, F, fl, e', he, n, hf, hQ⟩ := h
  simp only [ex, Option.some.injEq, Prod.mk.injEq] at hf
  obtain ⟨rfl, rfl⟩ := hf
  exact hQ σ H F he n (Stp.refl _ _) (Agr.refl _ _)
theorem snd_cont {pos : Pos} : PS X (.Continue pos) (tT X.K (ex Φ T.G .cont) []) := PS.weak ps_continue fun D σ H h => by
  obtain ⟨e, F, fl, e', he, n, hf, hQ⟩ := h
  simp only [ex, Option.some.injEq, Prod.mk.injEq] at hf
  obtain ⟨rfl, rfl⟩ := hf
  exact hQ σ H F he n (Stp.refl _ _) (Agr.refl _ _)
theorem snd_pass {pos : Pos} : PS X (.Pass pos) (tT X.K (ex Φ T.G .pass) []) := PS.weak ps_pass fun D σ H h => by
  obtain ⟨e, F, fl, e', he, n, hf, hQ⟩ := h
  simp only [ex, Option.some.injEq, Prod.mk.injEq] at hf
  obtain ⟨rfl, rfl⟩ := hf
  exact hQ σ H F he n (Stp.refl _ _) (Agr.refl _ _)
theorem snd_never {s : Stmt} : PS X s (tT X.K (ex Φ T.G .never) []) := PS.weak ps_never fun D σ H h => by
  obtain ⟨e, F, fl, e', he, n, hf, hQ⟩ := h
  simp [ex] at hf
end
end Sw
set_option maxHeartbeats 1000000
/-! Sw, part 20: control flow; functions. -/
namespace Sw
open PySem PySem.Spec PyProof.Rows L2
section
variable {W : Tab} {Φ : CallS} {k : Nat} {sc : Scope} {X : Cx}
theorem ORs.slots2 {K : PySem.W.Frag} {H : Hp} {σ τ : L2.St} {vs : List V} {os : List Opd} {F : List Addr} {l : List Nat} (h : ORs K H σ vs os F) (a : Agr l σ τ) (hf : freeOf os l = true) : ORs K H τ vs os F := h.slots fun i z => a.2 i (free_not hf i z)
/-! ### if -/
theorem ex_ifs {t : E} {a b : List T} {e e' : En} {fl : Fl} (h : ex Φ W.G (.ifs t a b) e = some (fl, e')) : ∃ x d k e1, evo Φ W.G t e = some (x, e1) ∧ resv e1 x = some d ∧ truth d = some k ∧ (if k then exs Φ W.G a e1 else exs Φ W.G b e1) = some (fl, e') := by
  simp only [ex] at h
  obtain ⟨⟨x, e1⟩, h1, h⟩ := bind_some h
  obtain ⟨d, h2, h⟩ := bind_some h
  obtain ⟨k, h3, h⟩ := bind_some h
  exact ⟨x, d, k, e1, h1, h2, h3, h⟩
theorem snd_if {t : E} {a b : List T} {c : Expr} {x y : List Stmt} {pos : Pos} (hc : PT X c (tTst X.K (evo Φ W.G t))) (ha : PSs X x (tT X.K (exs Φ W.G a) (asgTs a))) (hb : PSs X y (tT X.K (exs Φ W.G b) (asgTs b))) :
    PS X (.If c x y pos) (tT X.K (ex Φ W.G (.ifs t a b)) (asgTs a ++ asgTs b)) := PS.weak (ps_if hc ha hb) fun D σ H h => by
  obtain ⟨e, F, fl, e', he, n, hf, hQ⟩ := h
  obtain ⟨o, d, k, e1, h1, h2, h3, h4⟩ := ex_ifs hf
  refine ⟨e, F, o, e1, d, k, he, n, h1, h2, h3, fun H1 F1 he1 n1 s1 => ?_⟩
  cases k with
  | true =>
    rw [if_pos rfl] at h4 ⊢
    exact ⟨e1, F1, fl, e', he1, n1, h4, hQ.step s1 (Agr.refl _ _) (fun j z => z) fun j z => List.mem_append_left _ z⟩
  | false =>
    rw [if_neg Bool.false_ne_true] at h4 ⊢
    exact ⟨e1, F1, fl, e', he1, n1, h4, hQ.step s1 (Agr.refl _ _) (fun j z => z) fun j z => List.mem_append_right _ z⟩
/-! ### while -/
def stepW (Φ : CallS) (G : List P) (t : E) (body : List T) (e : En) : Option (Bool × Fl × En) := (evo Φ G t e).bind fun x => (resv x.2 x.1).bind fun d => (truth d).bind fun k => if k then (exs Φ G body x.2).bind fun r => some (true, r.1, r.2) else some (false, .nx, x.2)
theorem ex_whl {n : Nat} {t : E} {body : List T} {e : En} : ex Φ W.G (.whl n t body) e = whlL (stepW Φ W.G t body) n e := by
  simp only [ex]
  rfl
theorem snd_whl {n : Nat} {t : E} {body : List T} {c : Expr} {x : List Stmt} {pos : Pos} (d : DefCx X) (hc : PT X c (tTst X.K (evo Φ W.G t))) (hb : PSs X x (tT X.K (exs Φ W.G body) (asgTs body))) :
    PS X (.While c x [] pos) (tT X.K (ex Φ W.G (.whl n t body)) (asgTs body)) := PS.weak (ps_while d.own hc hb) fun D σ H h => by
  obtain ⟨e, F, fl, e', he, nd, hf, hQ⟩ := h
  rw [ex_whl] at hf
  refine ⟨fun m σ1 H1 => ∃ e1 F1, EnvRep X.K H1 σ1 e1 F1 ∧ F1.Nodup ∧ Stp H F H1 F1 ∧ Agr (asgTs body) σ σ1 ∧ whlL (stepW Φ W.G t body) m e1 = some (fl, e'), ⟨n, e, F, he, nd, Stp.refl _ _, Agr.refl _ _, hf⟩, fun m σ1 H1 hw => ?_⟩
  obtain ⟨e1, F1, he1, n1, s1, a1, hl⟩ := hw
  cases m with
  | zero => simp [whlL] at hl
  | succ m =>
    unfold whlL at hl
    obtain ⟨⟨b, f1, e2⟩, hs, hl⟩ := bind_some hl
    unfold stepW at hs
    obtain ⟨⟨o, e3⟩, g1, hs⟩ := bind_some hs
    obtain ⟨dv, g2, hs⟩ := bind_some hs
    obtain ⟨kb, g3, hs⟩ := bind_some hs
    refine ⟨e1, F1, o, e3, dv, kb, he1, n1, g1, g2, g3, fun H2 F2 he2 n2 s2 => ?_⟩
    cases kb with
    | false =>
      rw [if_neg Bool.false_ne_true] at hs ⊢
      cases hs
      rw [if_neg Bool.false_ne_true] at hl
      cases hl
      exact hQ σ1 H2 F2 he2 n2 (s1.trans s2) a1
    | true =>
      rw [if_pos rfl] at hs ⊢
      obtain ⟨⟨f2, e4⟩, g4, hs⟩ := bind_some hs
      cases hs
      rw [if_pos rfl] at hl
      refine ⟨fun σ' H' => ∃ e1 F1, EnvRep X.K H' σ' e1 F1 ∧ F1.Nodup ∧ Stp H F H' F1 ∧ Agr (asgTs body) σ σ' ∧ whlL (stepW Φ W.G t body) m e1 = some (fl, e'), fun σ' H' hn => ⟨m, Nat.lt_succ_self m, hn⟩, ?_⟩
      refine ⟨e3, F2, f2, e4, he2, n2, g4, ?_⟩
      cases f2 with
      | nx => exact fun σ' H' F' r nn q ag => ⟨e4, F', r, nn, (s1.trans s2).trans q, a1.trans ag, hl⟩
      | ct => exact fun σ' H' F' r nn q ag => ⟨e4, F', r, nn, (s1.trans s2).trans q, a1.trans ag, hl⟩
      | bk =>
        cases hl
        exact fun σ' H' F' r nn q ag => hQ σ' H' F' r nn ((s1.trans s2).trans q) (a1.trans ag)
      | rt dr =>
        cases hl
        exact fun v σ' H' Fd F' r r2 nn q ag => hQ v σ' H' Fd F' r r2 nn ((s1.trans s2).trans q) (a1.trans ag)
/-! ### for -/
def stepF (Φ : CallS) (G : List P) (t : Pat) (body : List T) (p : P) (e2 : En) : Option (Fl × En) := (bindP t p e2).bind fun e3 => exs Φ G body e3
theorem ex_for {t : Pat} {ik : IK} {as : List E} {body : List T} {e e' : En} {fl : Fl} (h : ex Φ W.G (.fors t ik as body) e = some (fl, e')) : ∃ os e1 ds ps, evos Φ W.G as e = some (os, e1) ∧ resvs e1 os = some ds ∧ items ik ds = some ps ∧ freeOf os (asgP t ++ asgTs body) = true ∧
    forL (stepF Φ W.G t body) (fun e' => lockOk os e1 e') ps e1 = some (fl, e') := by
  simp only [ex] at h
  obtain ⟨⟨os, e1⟩, h1, h⟩ := bind_some h
  obtain ⟨ds, h2, h⟩ := bind_some h
  obtain ⟨ps, h3, h⟩ := bind_some h
  split at h
  · rename_i c
    exact ⟨os, e1, ds, ps, h1, h2, h3, c, h⟩
  · cases h
theorem snd_for {t : Pat} {ik : IK} {as : List E} {body : List T} {tg iter : Expr} {x : List Stmt} {pos : Pos} (g : Good W Φ k sc X) (d : DefCx X) (hi : PI X tg iter (tI X.K ik (evos Φ W.G as))) (hg : PG X tg (tG X.K t)) (hset : notSet iter = true) (hb : PSs X x (tT X.K (exs Φ W.G body) (asgTs body))) :
    PS X (.For tg iter x [] pos) (tT X.K (ex Φ W.G (.fors t ik as body)) (asgP t ++ asgTs body)) := PS.weak (ps_for d.own g.calm hi hg hb (notSet_of hset _)) fun D σ H h => by
  obtain ⟨e, F, fl, e', he, nd, hf, hQ⟩ := h
  obtain ⟨os, e1, ds, ps, h1, h2, h3, hfree, hL⟩ := ex_for hf
  refine ⟨e, F, os, e1, ds, ps, he, nd, h1, h2, h3, fun J vs H1 Fd F1 ors he1 n1 s1 walk => ?_⟩
  refine for_it walk (fun i σ' H' => ∃ ei Fi Gd, ORs X.K H' σ' vs os Gd ∧ EnvRep X.K H' σ' ei Fi ∧ (Gd ++ Fi).Nodup ∧ Stp H F H' (Gd ++ Fi) ∧ Agr (asgP t ++ asgTs body) σ σ' ∧ lockOk os e1 ei = true ∧ forL (stepF Φ W.G t body) (fun e' => lockOk os e1 e') (ps.drop i) ei = some (fl, e'))
    ⟨e1, F1, Fd, ors, he1, n1, s1, Agr.refl _ _, lock_refl _ _, by rw [List.drop_zero]; exact hL⟩ (fun i σ' H' _ hp => ?_) (fun i y σ1 H2 H3 hi hp hy => ?_) (fun σ' H' hp => ?_)
  · obtain ⟨ei, Fi, Gd, c1, c2, c3, c4, c5, c6, c7⟩ := hp
    exact resvs_ok c2 c1 (by rw [lock_get c6]; exact h2)
  · obtain ⟨ei, Fi, Gd, c1, c2, c3, c4, c5, c6, c7⟩ := hp
    obtain ⟨sm, p, hp1, hp2⟩ := hy
    have hdr : ps.drop i = p :: ps.drop (i + 1) := by
      obtain ⟨hlt, e⟩ := List.getElem?_eq_some_iff.mp hp1
      rw [List.drop_eq_getElem_cons hlt, e]
    rw [hdr] at c7
    unfold forL at c7
    obtain ⟨⟨f1, e2⟩, hs, hl⟩ := bind_some c7
    unfold stepF at hs
    obtain ⟨e3, hs1, hs2⟩ := bind_some hs
    have c2' := c2.same sm
    have c1' : ORs X.K H3 σ1 vs os Gd := c1.mono (Keeps.of_same sm) (same_off sm c1.mut)
    refine ⟨ei, Fi, p, e3, c2', nd_right c3, hp2, hs1, fun σ2 F2 r2 n2 sub2 ag2 => ?_⟩
    have st2 : Stp H F H3 (Gd ++ F2) := stp_pick (c4.trans (Stp.of_same sm)) fun a z => (List.mem_append.mp z).elim (fun z => List.mem_append_left _ z) fun z => List.mem_append_right _ (sub2 a z)
    have nd2 : (Gd ++ F2).Nodup := nd_mk (nd_left c3) n2 fun a z y => nd_off c3 a z (sub2 a y)
    have ag2' : Agr (asgP t ++ asgTs body) σ1 σ2 := ag2.mono fun j z => List.mem_append_left _ z
    have o2 : ORs X.K H3 σ2 vs os Gd := c1'.slots2 ag2' hfree
    refine ⟨e3, F2, f1, e2, r2, n2, hs2, ?_⟩
    have again : (if lockOk os e1 e2 = true then forL (stepF Φ W.G t body) (fun e' => lockOk os e1 e') (ps.drop (i + 1)) e2 else none) = some (fl, e') → ∀ (σ' : L2.St) (H' : Hp) (F' : List Addr), EnvRep X.K H' σ' e2 F' → F'.Nodup → Stp H3 F2 H' F' → Agr (asgTs body) σ2 σ' →
        ∃ ei Fi Gd, ORs X.K H' σ' vs os Gd ∧ EnvRep X.K H' σ' ei Fi ∧ (Gd ++ Fi).Nodup ∧ Stp H F H' (Gd ++ Fi) ∧ Agr (asgP t ++ asgTs body) σ σ' ∧ lockOk os e1 ei = true ∧ forL (stepF Φ W.G t body) (fun e' => lockOk os e1 e') (ps.drop (i + 1)) ei = some (fl, e') := fun hl σ' H' F' r nn q ag => by
      split at hl
      · rename_i lk
        have ag' : Agr (asgP t ++ asgTs body) σ2 σ' := ag.mono fun j z => List.mem_append_right _ z
        obtain ⟨k1, k2⟩ := stp_keep q r2.mut o2.mut nd2
        obtain ⟨k3, k4⟩ := stp_two st2 nd2 o2.mut q nn
        exact ⟨e2, F', Gd, (o2.mono k1 k2).slots2 ag' hfree, r, k4, k3, (c5.trans ag2').trans ag', lk, hl⟩
      · cases hl
    have out : ∀ (σ' : L2.St) (H' : Hp) (F' : List Addr), F'.Nodup → Stp H3 F2 H' F' → Agr (asgTs body) σ2 σ' → Stp H F H' F' ∧ Agr (asgP t ++ asgTs body) σ σ' := fun σ' H' F' nn q ag =>
      ⟨(stp_pick st2 fun a z => List.mem_append_right _ z).trans q, (c5.trans ag2').trans (ag.mono fun j z => List.mem_append_right _ z)⟩
    cases f1 with
    | nx => exact again hl
    | ct => exact again hl
    | bk =>
      cases hl
      exact fun σ' H' F' r nn q ag => hQ σ' H' F' r nn (out σ' H' F' nn q ag).1 (out σ' H' F' nn q ag).2
    | rt dr =>
      cases hl
      exact fun v σ' H' Fd F' r r2 nn q ag => hQ v σ' H' Fd F' r r2 nn ((stp_pick st2 fun a z => List.mem_append_right _ z).trans q) ((c5.trans ag2').trans (ag.mono fun j z => List.mem_append_right _ z))
  · obtain ⟨ei, Fi, Gd, c1, c2, c3, c4, c5, c6, c7⟩ := hp
    rw [List.drop_length] at c7
    unfold forL at c7
    cases c7
    exact hQ σ' H' Fi c2 (nd_right c3) (stp_drop c4) c5
/-! ### blocks -/
theorem snd_snil : PSs X [] (tT X.K (exs Φ W.G []) (asgTs [])) := by
  refine ⟨fun pins s σ H D I h => pss_nil.run pins s σ H D I ?_⟩
  obtain ⟨e, F, fl, e', he, n, hf, hQ⟩ := h
  simp only [exs, Option.some.injEq, Prod.mk.injEq] at hf
  obtain ⟨rfl, rfl⟩ := hf
  exact hQ σ H F he n (Stp.refl _ _) (Agr.refl _ _)
theorem snd_scons {a : T} {as : List T} {s : Stmt} {ss : List Stmt} (ha : PS X s (tT X.K (ex Φ W.G a) (asgT a))) (hs : PSs X ss (tT X.K (exs Φ W.G as) (asgTs as))) : PSs X (s :: ss) (tT X.K (exs Φ W.G (a :: as)) (asgTs (a :: as))) := by
  refine PSs.weak (pss_cons ha hs) fun D σ H h => ?_
  obtain ⟨e, F, fl, e', he, n, hf, hQ⟩ := h
  simp only [exs] at hf
  simp only [asgTs] at hQ
  obtain ⟨⟨f1, e1⟩, h1, h2⟩ := bind_some hf
  refine ⟨e, F, f1, e1, he, n, h1, ?_⟩
  cases f1 with
  | nx => exact fun σ1 H1 F1 r n1 s1 a1 => ⟨e1, F1, fl, e', r, n1, h2, hQ.step s1 a1 (fun j z => List.mem_append_left _ z) fun j z => List.mem_append_right _ z⟩
  | bk =>
    cases h2
    exact fun σ1 H1 F1 r n1 s1 a1 => hQ σ1 H1 F1 r n1 s1 (a1.mono fun j z => List.mem_append_left _ z)
  | ct =>
    cases h2
    exact fun σ1 H1 F1 r n1 s1 a1 => hQ σ1 H1 F1 r n1 s1 (a1.mono fun j z => List.mem_append_left _ z)
  | rt d =>
    cases h2
    exact fun v σ1 H1 Fd F1 r r2 n1 s1 a1 => hQ v σ1 H1 Fd F1 r r2 n1 s1 (a1.mono fun j z => List.mem_append_left _ z)
mutual
theorem sndT : ∀ (a : T) {s : Stmt}, Good W Φ k sc X → DefCx X → chkT W sc a s = true → PS X s (tT X.K (ex Φ W.G a) (asgT a))
  | .asg t a, s, g, d, h => by
    unfold chkT at h
    split at h <;> first | (cases h; done) | skip
    obtain ⟨h1, h2⟩ := and2 h
    obtain ⟨h3, h4⟩ := and2 h1
    simp only [asgT]
    rcases (Bool.or_eq_true _ _).mp h2 with h2 | h2
    · exact snd_asg g d h3 h4 h2
    · obtain ⟨h5, h6⟩ := and2 h2
      cases a with
      | cmp own t2 k as tests elt => exact snd_asgL g d h3 h4 h6
      | cmp2 own own2 t1 k as tests t2 k2 as2 tests2 elt => exact snd_asgL2 g d h3 h4 h6
      | _ => cases h5
  | .par is es, s, g, d, h => by
    unfold chkT at h
    split at h <;> first | (cases h; done) | skip
    obtain ⟨h1, h2⟩ := and2 h
    obtain ⟨h3, h4⟩ := and2 h1
    obtain ⟨h5, h6⟩ := and2 h3
    obtain ⟨h7, h8⟩ := and2 h5
    simp only [asgT]
    exact snd_par g d h7 (of_decide_eq_true h8) (of_decide_eq_true h6) h4 h2
  | .aug i o a, s, g, d, h => by
    unfold chkT at h
    split at h <;> first | (cases h; done) | skip
    obtain ⟨h1, h2⟩ := and2 h
    obtain ⟨h3, h4⟩ := and2 h1
    obtain ⟨h5, h6⟩ := and2 h3
    simp only [asgT]
    exact snd_aug g d h5 h6 (of_decide_eq_true h4) h2
  | .sto i q a, s, g, d, h => by
    unfold chkT at h
    split at h <;> first | (cases h; done) | skip
    obtain ⟨h1, h2⟩ := and2 h
    obtain ⟨h3, h4⟩ := and2 h1
    obtain ⟨h5, h6⟩ := and2 h3
    obtain ⟨h7, h8⟩ := and2 h5
    rw [Bool.not_eq_true'] at h2
    simp only [asgT]
    exact snd_sto g h7 h8 h6 h4 h2
  | .augs i q o a, s, g, d, h => by
    unfold chkT at h
    split at h <;> first | (cases h; done) | skip
    obtain ⟨h, r5⟩ := and2 h
    obtain ⟨h, r4⟩ := and2 h
    obtain ⟨h, r3⟩ := and2 h
    obtain ⟨r1, r2⟩ := and2 h
    simp only [asgT]
    exact snd_augs g r1 r2 r3 r4 (of_decide_eq_true r5)
  | .sto2 i k1 j k2 a b, s, g, d, h => by
    unfold chkT at h
    split at h <;> first | (cases h; done) | skip
    obtain ⟨h, r10⟩ := and2 h
    obtain ⟨h, r9⟩ := and2 h
    obtain ⟨h, r8⟩ := and2 h
    obtain ⟨h, r7⟩ := and2 h
    obtain ⟨h, r6⟩ := and2 h
    obtain ⟨h, r5⟩ := and2 h
    obtain ⟨h, r4⟩ := and2 h
    obtain ⟨h, r3⟩ := and2 h
    obtain ⟨r1, r2⟩ := and2 h
    simp only [asgT]
    exact snd_sto2 g d r1 r2 r3 r4 r5 r6 r7 r8 r9 r10
  | .ex a, s, g, d, h => by
    unfold chkT at h
    split at h <;> first | (cases h; done) | skip
    obtain ⟨h1, h2⟩ := and2 h
    rw [Bool.not_eq_true'] at h2
    simp only [asgT]
    exact snd_ex g h1 h2
  | .ret a, s, g, d, h => by
    unfold chkT at h
    split at h <;> first | (cases h; done) | skip
    simp only [asgT]
    exact snd_ret g h
  | .ret0, s, g, d, h => by
    unfold chkT at h
    split at h <;> first | (cases h; done) | skip
    simp only [asgT]
    exact snd_ret0
  | .ifs t a b, s, g, d, h => by
    have ia := fun {ss : List Stmt} (h : chkTs W sc a ss = true) => sndTs a g d h
    have ib := fun {ss : List Stmt} (h : chkTs W sc b ss = true) => sndTs b g d h
    unfold chkT at h
    split at h <;> first | (cases h; done) | skip
    obtain ⟨h1, h2⟩ := and2 h
    obtain ⟨h3, h4⟩ := and2 h1
    obtain ⟨h5, h6⟩ := and2 h3
    simp only [asgT]
    exact snd_if ((snd1 t g h5).pt h6) (ia h4) (ib h2)
  | .fors t ik as body, s, g, d, h => by
    have ib := fun {ss : List Stmt} (h : chkTs W sc body ss = true) => sndTs body g d h
    unfold chkT at h
    split at h <;> first | (cases h; done) | skip
    obtain ⟨h1, h2⟩ := and2 h
    obtain ⟨h3, h4⟩ := and2 h1
    have ind := fun {xs : List Expr} (h : chkEs W sc as xs = true) => snds as g h
    simp only [asgT]
    refine snd_for g d (snd_I g h4 (fun a y e z => ?_) fun xs z => (ind z).pa) (pat_def g d h3) (chkI_set h4) (ib h2)
    subst e
    exact ((ind (xs := [y]) (by simp [chkEs, z, chkE_star z])).one a y rfl rfl).pe
  | .whl n t body, s, g, d, h => by
    have ib := fun {ss : List Stmt} (h : chkTs W sc body ss = true) => sndTs body g d h
    unfold chkT at h
    split at h <;> first | (cases h; done) | skip
    obtain ⟨h1, h2⟩ := and2 h
    obtain ⟨h3, h4⟩ := and2 h1
    simp only [asgT]
    exact snd_whl d ((snd1 t g h3).pt h4) (ib h2)
  | .brk, s, g, d, h => by
    unfold chkT at h
    split at h <;> first | (cases h; done) | skip
    simp only [asgT]
    exact snd_brk
  | .cont, s, g, d, h => by
    unfold chkT at h
    split at h <;> first | (cases h; done) | skip
    simp only [asgT]
    exact snd_cont
  | .pass, s, g, d, h => by
    unfold chkT at h
    split at h <;> first | (cases h; done) | skip
    simp only [asgT]
    exact snd_pass
  | .never, s, g, d, h => by
    simp only [asgT]
    exact snd_never
theorem sndTs : ∀ (as : List T) {ss : List Stmt}, Good W Φ k sc X → DefCx X → chkTs W sc as ss = true → PSs X ss (tT X.K (exs Φ W.G as) (asgTs as))
  | [], ss, g, d, h => by
    cases ss with
    | nil => exact snd_snil
    | cons _ _ => simp [chkTs] at h
  | a :: as, ss, g, d, h => by
    cases ss with
    | nil => simp [chkTs] at h
    | cons s ss =>
      simp only [chkTs] at h
      obtain ⟨h1, h2⟩ := and2 h
      exact snd_scons (sndT a g d h1) (sndTs as g d h2)
end
end
end Sw
set_option maxHeartbeats 1000000
/-! Sw, part 21: the functions' table, the law. -/
namespace Sw
open PySem PySem.Spec PyProof.Rows L2
structure DS where
  d : He.DefD
  ps : List Str
  N : List Str
  fn : Fn
def fnsOf (defs : List DS) : List (Str × Nat) := defs.map fun D => (D.d.name, D.ps.length)
def progOf (defs : List DS) : List Fn := defs.map fun D => D.fn
def scopeB (N ps : List Str) (sc : Scope) : Bool :=
  (match sc.kind with | .function => true | _ => false) && !sc.isCoroutine && !sc.isGenerator && decide N.Nodup && decide (N.take ps.length = ps) && ps.all (fun x => lookB sc x .local || lookB sc x .cell) && sc.names.all fun y => (match y.2 with | .free => false | _ => true)
theorem scopeB_ok {N ps : List Str} {sc : Scope} (h : scopeB N ps sc = true) : FnScope N ps sc := by
  unfold scopeB at h
  obtain ⟨h, h7⟩ := and2 h
  obtain ⟨h, h6⟩ := and2 h
  obtain ⟨h, h5⟩ := and2 h
  obtain ⟨h, h4⟩ := and2 h
  obtain ⟨h, h3⟩ := and2 h
  obtain ⟨h1, h2⟩ := and2 h
  rw [Bool.not_eq_true'] at h2 h3
  refine ⟨?_, h2, h3, of_decide_eq_true h4, of_decide_eq_true h5, fun x hx => ?_, fun y hy e => ?_⟩
  · split at h1
    · assumption
    · cases h1
  · have := List.all_eq_true.mp h6 x hx
    rcases (Bool.or_eq_true _ _).mp this with q | q
    · exact .inl (look_of q)
    · exact .inr (look_of q)
  · have := List.all_eq_true.mp h7 y hy
    rw [e] at this
    cases this
def okD (fns : List (Str × Nat)) (glos : List (Str × P)) (D : DS) : Bool := chkTs ⟨D.N, fns, glos⟩ D.d.scope D.fn.body D.d.body && decide (D.fn.np = D.ps.length) && decide (D.fn.n = D.N.length) && scopeB D.N D.ps D.d.scope && D.d.dfl.isEmpty && D.d.kwd.isEmpty
section
variable {K : PySem.W.Frag} {H H' : Hp}
theorem Reps.start {vs : List V} {ds : List D} {F : List Addr} (h : Reps K H vs ds F) (m : Nat) : EnvRep K H (vs.map some ++ List.replicate m none) (ds.map some ++ List.replicate m none) F := by
  induction h with
  | nil =>
    induction m with
    | zero => exact .nil
    | succ m ih => exact .ns ih
  | cons r _ ih => exact .sm r ih
theorem Reps.length {vs : List V} {ds : List D} {F : List Addr} (h : Reps K H vs ds F) : vs.length = ds.length := by
  induction h with
  | nil => rfl
  | cons _ _ ih => rw [List.length_cons, List.length_cons, ih]
theorem outs_set {asg : List Nat} {e : En} {j : Nat} {z : Option D} : ∀ {ds : List D} {i : Nat}, j < i → outs asg (e.set j z) ds i = outs asg e ds i
  | [], _, _ => by simp only [outs]
  | d :: ds, i, h => by
    have ih := outs_set (asg := asg) (e := e) (z := z) (ds := ds) (i := i + 1) (Nat.lt_succ_of_lt h)
    simp only [outs, ih]
    rw [getE_set_ne e z (Nat.ne_of_lt h)]
theorem outs_ok {asg : List Nat} {σ' : L2.St} : ∀ {vs : List V} {ds : List D} {Fs : List Addr}, Reps K H vs ds Fs → Keeps H H' → ∀ {e : En} {F : List Addr} {i : Nat} {rs : List D}, EnvRep K H' σ' e F → F.Nodup → (∀ j, j + i ∉ asg → ∀ v, vs[j]? = some v → σ'[j + i]? = some (some v)) → outs asg e ds i = some rs →
    ∃ Fr, Reps K H' vs rs Fr ∧ Fr.Nodup ∧ ∀ a, a ∈ Fr → a ∈ F := by
  intro vs ds Fs h kp
  induction h with
  | nil =>
    intro e F i rs he n _ ho
    simp only [outs, Option.some.injEq] at ho
    subst ho
    exact ⟨[], .nil, List.nodup_nil, fun a z => nomatch z⟩
  | @cons v vs d ds F0 G0 r _ ih =>
    intro e F i rs he n hs ho
    simp only [outs] at ho
    obtain ⟨r0, h1, ho⟩ := bind_some ho
    obtain ⟨rs', h2, ho⟩ := bind_some ho
    cases ho
    have hs' : ∀ j, j + (i + 1) ∉ asg → ∀ w, vs[j]? = some w → σ'[j + (i + 1)]? = some (some w) := fun j hj w hw => by
      have := hs (j + 1) (by rw [Nat.add_right_comm]; exact hj) w (by simpa using hw)
      rw [Nat.add_right_comm] at this
      exact this
    cases d with
    | imm p =>
      cases h1
      obtain ⟨rp, _⟩ := r.imm_of
      obtain ⟨Fr, g1, g2, g3⟩ := ih he n hs' h2
      exact ⟨[] ++ Fr, .cons (Rep.imm (rp.keep kp)) g1, g2, g3⟩
    | lst ps =>
      have h1 : (if asg.contains i then none else getE e i) = some r0 := h1
      split at h1
      · cases h1
      · rename_i hc
        have hi : i ∉ asg := fun z => hc (by simpa using z)
        obtain ⟨w, Fi, F', q1, q2, q3, q4, q5⟩ := he.out h1
        have e1 := hs 0 (by rw [Nat.zero_add]; exact hi) v (by simp)
        rw [Nat.zero_add, q1] at e1
        cases e1
        have n5 := q5 n
        obtain ⟨Fr, g1, g2, g3⟩ := ih q3 (nd_right n5) hs' (by rw [outs_set (Nat.lt_succ_self i)]; exact h2)
        refine ⟨Fi ++ Fr, .cons q2 g1, nd_mk (nd_left n5) g2 fun a z y => nd_off n5 a z (g3 a y), fun a z => q4 a ?_⟩
        rcases List.mem_append.mp z with z | z
        · exact List.mem_append_left _ z
        · exact List.mem_append_right _ (g3 a z)
    | dic _ ps =>
      have h1 : (if asg.contains i then none else getE e i) = some r0 := h1
      split at h1
      · cases h1
      · rename_i hc
        have hi : i ∉ asg := fun z => hc (by simpa using z)
        obtain ⟨w, Fi, F', q1, q2, q3, q4, q5⟩ := he.out h1
        have e1 := hs 0 (by rw [Nat.zero_add]; exact hi) v (by simp)
        rw [Nat.zero_add, q1] at e1
        cases e1
        have n5 := q5 n
        obtain ⟨Fr, g1, g2, g3⟩ := ih q3 (nd_right n5) hs' (by rw [outs_set (Nat.lt_succ_self i)]; exact h2)
        refine ⟨Fi ++ Fr, .cons q2 g1, nd_mk (nd_left n5) g2 fun a z y => nd_off n5 a z (g3 a y), fun a z => q4 a ?_⟩
        rcases List.mem_append.mp z with z | z
        · exact List.mem_append_left _ z
        · exact List.mem_append_right _ (g3 a z)
end
theorem callF_succ {prog : List Fn} {G : List P} {k j : Nat} {ds : List D} {d : D} {rs : List D} (h : callF prog G (k + 1) j ds = some (d, rs)) : ∃ fn fl e', prog[j]? = some fn ∧ ds.length = fn.np ∧ exs (callF prog G k) G fn.body (ds.map some ++ List.replicate (fn.n - fn.np) none) = some (fl, e') ∧
    ((fl = .nx ∧ d = .imm .non) ∨ fl = .rt d) ∧ outs (asgTs fn.body) e' ds 0 = some rs := by
  unfold callF at h
  obtain ⟨fn, h1, h⟩ := bind_some h
  split at h
  · rename_i hl
    obtain ⟨⟨fl, e'⟩, h2, h⟩ := bind_some h
    cases fl with
    | nx =>
      obtain ⟨rs', h3, h⟩ := bind_some h
      cases h
      exact ⟨fn, .nx, e', h1, hl, h2, .inl ⟨rfl, rfl⟩, h3⟩
    | rt d' =>
      obtain ⟨rs', h3, h⟩ := bind_some h
      cases h
      exact ⟨fn, .rt _, e', h1, hl, h2, .inr rfl, h3⟩
    | bk => cases h
    | ct => cases h
  · cases h
structure World0 (K : PySem.W.Frag) (mg : Str → Option Value) (defs : List DS) (glos : List (Str × P)) : Prop where
  fns : ∀ D ∈ defs, mg D.d.name = some (.ref (He.fAd K D.d.at_)) ∧ ∃ fd, FunD K D.d.name D.d.qual D.d.params D.d.body D.d.scope (D.d.dvs K) (D.d.kws K) (He.fAd K D.d.at_) fd
  bind : ∀ D ∈ defs, ∀ (kV doc pm : Value) (an : Option Addr) (cdv ct : Value) (us : List Value), us.length = D.ps.length → bindArgs (PySem.W.fnOf D.d.name D.d.qual D.d.params D.d.body D.d.scope .none kV doc pm an cdv ct) ⟨us, []⟩ = pure (D.ps.zip us)
  chk : ∀ D ∈ defs, okD (fnsOf defs) glos D = true
  glos : ∀ (j : Nat) (x : Str) (p : P), glos[j]? = some (x, p) → ∃ (u : Value) (v : V), mg x = some u ∧ RelV v u ∧ ∀ H, PRep K H v p
  blt : ∀ x ∈ bltNames, mg x = none
section
variable {K : PySem.W.Frag} {mg : Str → Option Value} {defs : List DS} {glos : List (Str × P)}
theorem len_of {φ : List D → Option (D × List D)} {n : Nat} (h : ∀ ds d rs, φ ds = some (d, rs) → ds.length = n) : ∀ vs H Q E, spD K φ vs H Q E → vs.length = n := fun vs H Q E hs => by
  obtain ⟨ds, Fs, d, rs, h1, _, h3, _⟩ := hs
  rw [h1.length, h ds d rs h3]
theorem fn_all (Y : World0 K mg defs glos) (P' : Program) (w : World) (base : Heap) : ∀ (k j : Nat) (D : DS) (fd : FuncData), defs[j]? = some D → FunD K D.d.name D.d.qual D.d.params D.d.body D.d.scope (D.d.dvs K) (D.d.kws K) (He.fAd K D.d.at_) fd → Binds K fd D.ps [] ∧ PySem.W.keepIn K (.ref (He.fAd K D.d.at_)) = true ∧ (∀ (s : Shared) (us : List Value), us.length = D.ps.length → BindsTo s fd ⟨us, []⟩ (D.ps.zip us)) ∧
    FnOk P' w K mg base CX0 k (He.fAd K D.d.at_) fd D.ps (spD K (callF (progOf defs) (glos.map (·.2)) k j)) := by
  intro k
  induction k with
  | zero =>
    intro j D fd hj F
    have hm := List.mem_of_getElem? hj
    obtain ⟨h1, _⟩ := Y.fns D hm
    have hc := Y.chk D hm
    unfold okD at hc
    obtain ⟨hc, c6⟩ := and2 hc
    obtain ⟨hc, c5⟩ := and2 hc
    have ed : D.d.dvs K = [] := by unfold He.DefD.dvs; rw [List.isEmpty_iff.mp c5] <;> rfl
    rw [ed] at F
    refine ⟨F.bindsN (Y.bind D hm), F.kp, F.bindsA (Y.bind D hm), ⟨fun vs H Q E hs => ?_, fun A outer s H args us vs Q E _ _ _ _ hs => ?_⟩⟩
    · obtain ⟨ds, Fs, d, rs, _, _, h3, _⟩ := hs
      simp [callF] at h3
    · obtain ⟨ds, Fs, d, rs, _, _, h3, _⟩ := hs
      simp [callF] at h3
  | succ k ih =>
    intro j D fd hj F
    have hm := List.mem_of_getElem? hj
    obtain ⟨h1, _⟩ := Y.fns D hm
    have hc := Y.chk D hm
    unfold okD at hc
    obtain ⟨hc, c6⟩ := and2 hc
    obtain ⟨hc, c5⟩ := and2 hc
    obtain ⟨hc, c4⟩ := and2 hc
    obtain ⟨hc, c3⟩ := and2 hc
    obtain ⟨c1, c2⟩ := and2 hc
    have c2 := of_decide_eq_true c2
    have c3 := of_decide_eq_true c3
    have S := scopeB_ok c4
    have hpr : (progOf defs)[j]? = some D.fn := by unfold progOf; rw [List.getElem?_map, hj] <;> rfl
    have ed : D.d.dvs K = [] := by unfold He.DefD.dvs; rw [List.isEmpty_iff.mp c5] <;> rfl
    rw [ed] at F
    refine ⟨F.bindsN (Y.bind D hm), F.kp, F.bindsA (Y.bind D hm), F.ok S (len_of fun ds d rs hs => ?_) fun cdv A outer s H vs Q E hr hsp => ?_⟩
    · obtain ⟨fn, fl, e', g1, g2, _⟩ := callF_succ hs
      rw [hpr] at g1
      cases g1
      rw [g2, c2]
    · obtain ⟨ds, Fs, d, rs, r1, r2, r3, r4⟩ := hsp
      obtain ⟨fn, fl, e', g1, g2, g3, g4, g5⟩ := callF_succ r3
      rw [hpr] at g1
      cases g1
      have good : Good ⟨D.N, fnsOf defs, glos⟩ (callF (progOf defs) (glos.map (·.2)) k) k D.d.scope (cxOf CX0 P' w K mg base D.N D.d.qual D.d.scope (He.fAd K D.d.at_) cdv A outer s H E) := by
        refine ⟨rfl, S.nd, rfl, hr, rfl, Y.glos, fun j' x n hx => ?_, Y.blt⟩
        have hx : (fnsOf defs)[j']? = some (x, n) := hx
        unfold fnsOf at hx
        rw [List.getElem?_map] at hx
        cases q : defs[j']? with
        | none => rw [q] at hx; cases hx
        | some D' =>
          rw [q] at hx
          cases hx
          obtain ⟨m1, fd', F'⟩ := Y.fns D' (List.mem_of_getElem? q)
          obtain ⟨b1, b2, _, b3⟩ := ih j' D' fd' q F'
          exact ⟨_, fd', D'.ps, m1, b2, b1, rfl, b3⟩
      have dcx : DefCx (cxOf CX0 P' w K mg base D.N D.d.qual D.d.scope (He.fAd K D.d.at_) cdv A outer s H E) := ⟨rfl, passes_of rfl, S.kind⟩
      refine ⟨_, sndTs D.fn.body good dcx c1, ?_⟩
      have hlen : D.fn.n - D.fn.np = D.N.length - vs.length := by rw [c3, r1.length, g2]
      refine ⟨ds.map some ++ List.replicate (D.fn.n - D.fn.np) none, Fs, fl, e', ?_, r2, g3, ?_⟩
      · unfold L2.start
        rw [← hlen]
        exact r1.start _
      · have fin : ∀ v σ' H' Fd F', Rep K H' v d Fd → EnvRep K H' σ' e' F' → (Fd ++ F').Nodup → Stp H Fs H' (Fd ++ F') → Agr (asgTs D.fn.body) (L2.start D.N vs) σ' → Q v H' := fun v σ' H' Fd F' q1 q2 q3 q4 q5 => by
          have kp := q4.keeps r1.mut
          obtain ⟨Fr, m1, m2, m3⟩ := outs_ok (i := 0) r1 kp q2 (nd_right q3) (fun j hj u hu => by
            rw [q5.2 (j + 0) hj]
            unfold L2.start
            rw [Nat.add_zero, List.getElem?_append_left (by rw [List.length_map]; exact (List.getElem?_eq_some_iff.mp hu).1), List.getElem?_map, hu] <;> rfl) g5
          exact r4 v H' Fd Fr q1 m1 (nd_mk (nd_left q3) m2 fun a z y => nd_off q3 a z (m3 a y)) (stp_pick q4 fun a z => (List.mem_append.mp z).elim (fun z => List.mem_append_left _ z) fun z => List.mem_append_right _ (m3 a z))
        rcases g4 with ⟨rfl, rfl⟩ | rfl
        · exact fun σ' H' F' q2 q3 q4 q5 => fin .non σ' H' [] F' (Rep.imm .non) q2 q3 q4 q5
        · exact fin
/-- the law's promise -/
theorem law_sp {prog : List Fn} {G : List P} {k j : Nat} (h : ∀ ns : List Int, ns.length ≤ 63 → ∃ rs, callF prog G k j [.imm (.lst (ns.map P.int))] = some (.imm (.bl true), rs)) (H : Hp) (a : Addr) (ns : List Int) (hl : ns.length ≤ 63) (ho : Only H) (hs : SqL K H a (ns.map V.int)) :
    spD K (callF prog G k j) [.ref a] H (fun v _ => v = .bl true) fun _ _ _ => False := by
  obtain ⟨rs, hc⟩ := h ns hl
  have hf : FzL K H a (ns.map V.int) := by
    rcases hs with (hs | ⟨o, hs⟩) | hs
    · rcases ho a with e | ⟨o, xs, e⟩
      · rw [e] at hs; cases hs
      · rw [e] at hs; cases hs
    · exact .inl ⟨o, hs⟩
    · exact .inr hs
  refine ⟨_, [], _, rs, .cons (Rep.imm (.lst hf (PReps.ints ns))) .nil, List.nodup_nil, hc, fun v H' Fd Fr r _ _ _ => ?_⟩
  exact r.bl_of
end
end Sw
namespace Sw
namespace k45
def FUEL : Nat := 1000000000
/-- is_integer: 0 value -/
def b_is_integer : List T :=
  [.ret (.and [(.op (.isi [.int]) [(.nm 0)]), (.not (.op (.isi [.bool]) [(.nm 0)]))])]
def f_is_integer : Fn := ⟨1, 1, b_is_integer⟩
/-- rotations: 0 word, 1 k -/
def b_rotations : List T :=
  [.ret (.cmp [1] (.nm 1) .rng1 [(.op .len [(.nm 0)])] [] (.frz (.op .add [(.slc (.nm 0) (some (.nm 1)) none), (.slc (.nm 0) none (some (.nm 1)))])))]
def f_rotations : Fn := ⟨1, 2, b_rotations⟩
/-- turned_row: 0 word, 1 rows, 2 row -/
def b_turned_row : List T :=
  [.asg (.nm 1) (.op .sorted [(.call 1 [(.nm 0)])]), .ret (.tup [(.mth .join (.cst (.str [])) [(.cmp [2] (.nm 2) .seq [(.nm 1)] [] (.op .idx [(.nm 2), (.op .neg [(.cst (.int 1))])]))]), (.op .len [(.cmp [2] (.nm 2) .seq [(.nm 1)] [(.op .lt [(.nm 2), (.nm 0)])] (.frz (.nm 2)))])])]
def f_turned_row : Fn := ⟨1, 3, b_turned_row⟩
/-- steps_of: 0 row, 1 order, 2 found, 3 number, 4 letter, 5 k -/
def b_steps_of : List T :=
  [.asg (.nm 1) (.op .sorted [(.cmp [5, 4] (.tp [(.nm 5), (.nm 4)]) .enum [(.nm 0)] [] (.tup [(.frz (.nm 4)), (.frz (.nm 5))]))]), .asg (.nm 2) (.op .mul [(.lst [(.cst (.int 0))]), (.op .len [(.nm 0)])]), .fors (.tp [(.nm 3), (.tp [(.nm 4), (.nm 5)])]) .enum [(.nm 1)] [.sto 2 (.nm 5) (.frz (.nm 3))], .ret (.nm 2)]
def f_steps_of : Fn := ⟨1, 6, b_steps_of⟩
/-- circle_from: 0 steps, 1 place, 2 found -/
def b_circle_from : List T :=
  [.asg (.nm 2) (.lst [(.frz (.nm 1))]), .whl FUEL (.op .ne [(.op .idx [(.nm 0), (.op .idx [(.nm 2), (.op .neg [(.cst (.int 1))])])]), (.nm 1)]) [.ex (.mut .append 2 [(.op .idx [(.nm 0), (.op .idx [(.nm 2), (.op .neg [(.cst (.int 1))])])])])], .ret (.nm 2)]
def f_circle_from : Fn := ⟨2, 3, b_circle_from⟩
/-- word_of: 0 row, 1 steps, 2 place, 3 k -/
def b_word_of : List T :=
  [.ret (.op .rev [(.mth .join (.cst (.str [])) [(.cmp [3] (.nm 3) .seq [(.call 4 [(.nm 1), (.nm 2)])] [] (.op .idx [(.nm 0), (.nm 3)]))])])]
def f_word_of : Fn := ⟨3, 4, b_word_of⟩
/-- read_turned: 0 row, 1 k, 2 steps, 3 word -/
def b_read_turned : List T :=
  [.ifs (.op .ge [(.nm 1), (.op .len [(.nm 0)])]) [.ret (.cst .non)] [], .asg (.nm 2) (.call 3 [(.nm 0)]), .asg (.nm 3) (.call 5 [(.nm 0), (.nm 2), (.nm 1)]), .ifs (.op .ne [(.op .mod [(.op .len [(.nm 0)]), (.op .len [(.nm 3)])]), (.cst (.int 0))]) [.ret (.cst .non)] [], .asg (.nm 3) (.op .mul [(.nm 3), (.op .fdiv [(.op .len [(.nm 0)]), (.op .len [(.nm 3)])])]), .ret (.ife (.op .eq [(.call 2 [(.nm 3)]), (.tup [(.frz (.nm 0)), (.frz (.nm 1))])]) (.nm 3) (.cst .non))]
def f_read_turned : Fn := ⟨2, 4, b_read_turned⟩
/-- least_rotation: 0 word -/
def b_least_rotation : List T :=
  [.ret (.op .minL [(.call 1 [(.nm 0)])])]
def f_least_rotation : Fn := ⟨1, 1, b_least_rotation⟩
/-- turned_paper: 0 row, 1 steps, 2 words, 3 pair, 4 k -/
def b_turned_paper : List T :=
  [.asg (.nm 1) (.call 3 [(.nm 0)]), .asg (.nm 2) (.cmp [4] (.nm 4) .rng1 [(.op .len [(.nm 0)])] [] (.frz (.call 7 [(.call 5 [(.nm 0), (.nm 1), (.nm 4)])]))), .asg (.nm 3) (.call 9 [(.nm 2)]), .ifs (.op .notN [(.nm 3)]) [.ret (.op .add [(.tup [(.cst (.str [112, 97, 114, 116, 101, 100]))]), (.nm 3)])] [], .ret (.tup [(.cst (.str [116, 117, 114, 110, 101, 100])), (.op .mul [(.op .idx [(.nm 2), (.cst (.int 0))]), (.op .fdiv [(.op .len [(.nm 0)]), (.op .len [(.op .idx [(.nm 2), (.cst (.int 0))])])])])])]
def f_turned_paper : Fn := ⟨1, 5, b_turned_paper⟩
/-- first_unlike: 0 words, 1 i, 2 j -/
def b_first_unlike : List T :=
  [.fors (.nm 1) .rng1 [(.op .len [(.nm 0)])] [.fors (.nm 2) .rng2 [(.op .add [(.nm 1), (.cst (.int 1))]), (.op .len [(.nm 0)])] [.ifs (.op .ne [(.op .idx [(.nm 0), (.nm 1)]), (.op .idx [(.nm 0), (.nm 2)])]) [.ret (.tup [(.frz (.nm 1)), (.frz (.nm 2))])] []]], .ret (.cst .non)]
def f_first_unlike : Fn := ⟨1, 3, b_first_unlike⟩
/-- judge_turned: 0 row, 1 value, 2 steps, 3 first, 4 second, 5 k -/
def b_judge_turned : List T :=
  [.ifs (.or [(.not (.op (.isi [.tuple]) [(.nm 1)])), (.op .notin [(.op .len [(.nm 1)]), (.tup [(.cst (.int 2)), (.cst (.int 3))])]), (.not (.op (.isi [.str]) [(.op .idx [(.nm 1), (.cst (.int 0))])]))]) [.ret (.cst (.bl false))] [], .ifs (.op .eq [(.op .idx [(.nm 1), (.cst (.int 0))]), (.cst (.str [116, 117, 114, 110, 101, 100]))]) [.ifs (.or [(.op .ne [(.op .len [(.nm 1)]), (.cst (.int 2))]), (.not (.op (.isi [.str]) [(.op .idx [(.nm 1), (.cst (.int 1))])])), (.op .ne [(.op .len [(.op .idx [(.nm 1), (.cst (.int 1))])]), (.op .len [(.nm 0)])])]) [.ret (.cst (.bl false))] [], .ret (.and [(.op .eq [(.op .idx [(.nm 1), (.cst (.int 1))]), (.call 7 [(.op .idx [(.nm 1), (.cst (.int 1))])])]), (.op .eq [(.op .idx [(.call 2 [(.op .idx [(.nm 1), (.cst (.int 1))])]), (.cst (.int 0))]), (.nm 0)])])] [], .ifs (.or [(.op .ne [(.op .idx [(.nm 1), (.cst (.int 0))]), (.cst (.str [112, 97, 114, 116, 101, 100]))]), (.op .ne [(.op .len [(.nm 1)]), (.cst (.int 3))]), (.not (.call 0 [(.op .idx [(.nm 1), (.cst (.int 1))])])), (.not (.call 0 [(.op .idx [(.nm 1), (.cst (.int 2))])]))]) [.ret (.cst (.bl false))] [], .ifs (.not (.chain3 .le .lt .lt (.cst (.int 0)) (.op .idx [(.nm 1), (.cst (.int 1))]) (.op .idx [(.nm 1), (.cst (.int 2))]) (.op .len [(.nm 0)]))) [.ret (.cst (.bl false))] [], .asg (.nm 2) (.call 3 [(.nm 0)]), .asg (.tp [(.nm 3), (.nm 4)]) (.frz (.cmp [5] (.nm 5) .seq [(.slc (.nm 1) (some (.cst (.int 1))) none)] [] (.frz (.call 7 [(.call 5 [(.nm 0), (.nm 2), (.nm 5)])])))), .ret (.op .ne [(.nm 3), (.nm 4)])]
def f_judge_turned : Fn := ⟨2, 6, b_judge_turned⟩
/-- necklaces_of: 0 row, 1 steps, 2 seen, 3 found, 4 k, 5 place, 6 many, 7 word -/
def b_necklaces_of : List T :=
  [.asg (.nm 1) (.call 3 [(.nm 0)]), .asg (.nm 2) (.dnew false), .asg (.nm 3) (.lst []), .fors (.nm 4) .rng1 [(.op .len [(.nm 0)])] [.ifs (.op .notin [(.nm 4), (.nm 2)]) [.fors (.nm 5) .seq [(.call 4 [(.nm 1), (.nm 4)])] [.sto 2 (.nm 5) (.cst (.bl true))], .ex (.mut .append 3 [(.frz (.call 7 [(.call 5 [(.nm 0), (.nm 1), (.nm 4)])]))])] []], .ret (.op .tuple [(.cmp [6, 7] (.tp [(.nm 6), (.nm 7)]) .seq [(.op .sorted [(.cmp [7] (.nm 7) .seq [(.nm 3)] [] (.tup [(.op .len [(.nm 7)]), (.frz (.nm 7))]))])] [] (.frz (.nm 7)))])]
def f_necklaces_of : Fn := ⟨1, 8, b_necklaces_of⟩
/-- row_of: 0 necklaces, 1 longest, 2 rows, 3 word, 4 one, 5 again, 6 last -/
def b_row_of : List T :=
  [.asg (.nm 1) (.op .maxL [(.cmp [3] (.nm 3) .seq [(.nm 0)] [] (.op .len [(.nm 3)]))]), .asg (.nm 2) (.lst []), .fors (.nm 3) .seq [(.nm 0)] [.fors (.nm 4) .seq [(.call 1 [(.nm 3)])] [.asg (.nm 5) (.op .mul [(.nm 4), (.op .add [(.op .fdiv [(.op .mul [(.cst (.int 2)), (.nm 1)]), (.op .len [(.nm 4)])]), (.cst (.int 1))])]), .ex (.mut .append 2 [(.tup [(.frz (.slc (.nm 5) none (some (.op .mul [(.cst (.int 2)), (.nm 1)])))), (.op .idx [(.nm 4), (.op .neg [(.cst (.int 1))])])])])]], .ret (.mth .join (.cst (.str [])) [(.cmp [5, 6] (.tp [(.nm 5), (.nm 6)]) .seq [(.op .sorted [(.nm 2)])] [] (.frz (.nm 6)))])]
def f_row_of : Fn := ⟨1, 7, b_row_of⟩
/-- _law_start: 0 script, 1 cell -/
def b__law_start : List T :=
  [.ret (.lst [(.frz (.cmp [1] (.nm 1) .seq [(.slc (.nm 0) none (some (.cst (.int 63))))] [] (.op .int [(.nm 1)]))), (.cst (.int 0)), (.cst (.int 0)), (.cst (.int 0)), (.cst (.int 20))])]
def f__law_start : Fn := ⟨1, 2, b__law_start⟩
/-- _law_fill: 0 c, 1 number -/
def b__law_fill : List T :=
  [.sto 0 (.cst (.int 3)) (.op .add [(.op .idx [(.nm 0), (.cst (.int 3))]), (.cst (.int 1))]), .asg (.nm 1) (.op .add [(.op .mul [(.op .idx [(.nm 0), (.cst (.int 3))]), (.cst (.int 69621))]), (.cst (.int 12345))]), .ifs (.op .lt [(.op .idx [(.nm 0), (.cst (.int 1))]), (.op .len [(.op .idx [(.nm 0), (.cst (.int 0))])])]) [.asg (.nm 1) (.op .idx [(.op .idx [(.nm 0), (.cst (.int 0))]), (.op .idx [(.nm 0), (.cst (.int 1))])]), .sto 0 (.cst (.int 1)) (.op .add [(.op .idx [(.nm 0), (.cst (.int 1))]), (.cst (.int 1))]), .ifs (.op .lt [(.nm 1), (.cst (.int 0))]) [.asg (.nm 1) (.op .sub [(.op .sub [(.cst (.int 0)), (.cst (.int 1))]), (.nm 1)])] [], .ifs (.op .ge [(.nm 1), (.op .pow [(.cst (.int 10)), (.cst (.int 18))])]) [.ret (.nm 1)] []] [], .ifs (.and [(.op .idx [(.nm 0), (.cst (.int 0))]), (.op .ge [(.op .idx [(.nm 0), (.cst (.int 1))]), (.op .len [(.op .idx [(.nm 0), (.cst (.int 0))])])])]) [.asg (.nm 1) (.op .add [(.nm 1), (.op .mod [(.op .int [(.op .idx [(.op .idx [(.nm 0), (.cst (.int 0))]), (.op .neg [(.cst (.int 1))])])]), (.cst (.int 1000003))])])] [], .asg (.nm 1) (.op .mod [(.op .int [(.op .add [(.op .mul [(.nm 1), (.cst (.int 48271))]), (.op .mul [(.op .idx [(.nm 0), (.cst (.int 3))]), (.cst (.int 69621))])])]), (.cst (.int 2147483647))]), .ret (.op .add [(.op .fdiv [(.op .int [(.op .add [(.op .add [(.op .mul [(.nm 1), (.nm 1)]), (.op .mul [(.op .idx [(.nm 0), (.cst (.int 3))]), (.cst (.int 7919))])]), (.cst (.int 11))])]), (.cst (.int 64))]), (.cst (.int 36028797018963968))])]
def f__law_fill : Fn := ⟨1, 2, b__law_fill⟩
/-- _law_take: 0 c, 1 many, 2 digit -/
def b__law_take : List T :=
  [.ifs (.op .lt [(.op .idx [(.nm 0), (.cst (.int 2))]), (.nm 1)]) [.sto 0 (.cst (.int 2)) (.frz (.call 14 [(.nm 0)]))] [], .asg (.nm 2) (.op .mod [(.op .int [(.op .idx [(.nm 0), (.cst (.int 2))])]), (.nm 1)]), .sto 0 (.cst (.int 2)) (.op .fdiv [(.op .idx [(.nm 0), (.cst (.int 2))]), (.nm 1)]), .ret (.nm 2)]
def f__law_take : Fn := ⟨2, 3, b__law_take⟩
/-- _law_is_int: 0 value -/
def b__law_is_int : List T :=
  [.ret (.and [(.op (.isi [.int]) [(.nm 0)]), (.not (.op (.isi [.bool]) [(.nm 0)]))])]
def f__law_is_int : Fn := ⟨1, 1, b__law_is_int⟩
/-- _law_alike: 0 value, 1 due, 2 k -/
def b__law_alike : List T :=
  [.ifs (.op (.isi [.tuple]) [(.nm 1)]) [.ret (.and [(.op (.isi [.tuple]) [(.nm 0)]), (.op .eq [(.op .len [(.nm 0)]), (.op .len [(.nm 1)])]), (.op .all [(.cmp [2] (.nm 2) .rng1 [(.op .len [(.nm 1)])] [] (.frz (.call 17 [(.op .idx [(.nm 0), (.nm 2)]), (.op .idx [(.nm 1), (.nm 2)])])))])])] [], .ifs (.op .isN [(.nm 1)]) [.ret (.op .isN [(.nm 0)])] [], .ifs (.or [(.op (.isi [.bool]) [(.nm 0)]), (.op .ne [(.op (.isi [.str]) [(.nm 0)]), (.op (.isi [.str]) [(.nm 1)])])]) [.ret (.cst (.bl false))] [], .ret (.and [(.op (.isi [.int, .str]) [(.nm 0)]), (.op .eq [(.nm 0), (.nm 1)])])]
def f__law_alike : Fn := ⟨2, 3, b__law_alike⟩
/-- _law_words: 0 letters, 1 n, 2 found, 3 turn, 4 more, 5 word, 6 letter -/
def b__law_words : List T :=
  [.asg (.nm 2) (.lst [(.cst (.str []))]), .fors (.nm 3) .rng1 [(.nm 1)] [.asg (.nm 4) (.lst []), .fors (.nm 5) .seq [(.nm 2)] [.asg (.nm 4) (.op .add [(.nm 4), (.cmp [6] (.nm 6) .seq [(.nm 0)] [] (.frz (.op .add [(.nm 5), (.nm 6)])))])], .asg (.nm 2) (.frz (.nm 4))], .ret (.nm 2)]
def f__law_words : Fn := ⟨2, 7, b__law_words⟩
/-- _law_word: 0 c, 1 letters, 2 most, 3 k -/
def b__law_word : List T :=
  [.ret (.mth .join (.cst (.str [])) [(.cmp [3] (.nm 3) .rng1 [(.call 15 [(.nm 0), (.op .add [(.nm 2), (.cst (.int 1))])])] [] (.op .idx [(.nm 1), (.call 15 [(.nm 0), (.op .len [(.nm 1)])])]))])]
def f__law_word : Fn := ⟨3, 4, b__law_word⟩
/-- _law_spoilt: 0 c, 1 value, 2 k -/
def b__law_spoilt : List T :=
  [.ifs (.op (.isi [.str]) [(.nm 1)]) [.ret (.op .idx [(.lst [(.cst (.str [])), (.cst (.str [97])), (.cst (.str [98])), (.cst (.str [97, 98])), (.op .add [(.nm 1), (.cst (.str [97]))]), (.frz (.slc (.nm 1) (some (.cst (.int 1))) none)), (.cst (.str [98, 97, 99, 107])), (.cst (.str [108, 101, 97, 115, 116])), (.cst (.str [99, 97, 117, 103, 104, 116])), (.cst (.str [109, 105, 115, 115, 101, 100]))]), (.call 15 [(.nm 0), (.cst (.int 10))])])] [], .ifs (.not (.op (.isi [.tuple]) [(.nm 1)])) [.ret (.op .idx [(.lst [(.cst (.int 0)), (.cst (.int 1)), (.cst (.int 2)), (.op .neg [(.cst (.int 1))]), (.cst (.bl true)), (.cst .non), (.cst (.int 3))]), (.call 15 [(.nm 0), (.cst (.int 7))])])] [], .ifs (.or [(.not (.nm 1)), (.op .eq [(.call 15 [(.nm 0), (.cst (.int 5))]), (.cst (.int 0))])]) [.ret (.op .idx [(.lst [(.frz (.slc (.nm 1) (some (.cst (.int 1))) none)), (.frz (.slc (.nm 1) none (some (.op .neg [(.cst (.int 1))])))), (.frz (.op .add [(.nm 1), (.slc (.nm 1) (some (.op .neg [(.cst (.int 1))])) none)])), (.frz (.op .rev [(.nm 1)])), (.frz (.op .list [(.nm 1)])), (.op .add [(.nm 1), (.tup [(.tup [(.cst (.int 0)), (.cst (.int 0))])])]), (.tup []), (.tup [(.cst (.int 1)), (.cst (.int 0))])]), (.call 15 [(.nm 0), (.cst (.int 8))])])] [], .asg (.nm 2) (.call 15 [(.nm 0), (.op .len [(.nm 1)])]), .ret (.op .add [(.op .add [(.slc (.nm 1) none (some (.nm 2))), (.tup [(.frz (.call 20 [(.nm 0), (.op .idx [(.nm 1), (.nm 2)])]))])]), (.slc (.nm 1) (some (.op .add [(.nm 2), (.cst (.int 1))])) none)])]
def f__law_spoilt : Fn := ⟨2, 3, b__law_spoilt⟩
/-- _law_bent: 0 c, 1 value, 2 turn, 3 k -/
def b__law_bent : List T :=
  [.fors (.nm 3) .rng1 [(.op .mul [(.op .int [(.op .gt [(.nm 2), (.cst (.int 0))])]), (.op .add [(.cst (.int 1)), (.call 15 [(.nm 0), (.cst (.int 2))])])])] [.asg (.nm 1) (.call 20 [(.nm 0), (.nm 1)])], .ret (.nm 1)]
def f__law_bent : Fn := ⟨3, 4, b__law_bent⟩
/-- _law_rotations: 0 word, 1 k -/
def b__law_rotations : List T :=
  [.ret (.op .sorted [(.cmp [1] (.nm 1) .rng1 [(.op .len [(.nm 0)])] [] (.frz (.op .add [(.slc (.nm 0) (some (.nm 1)) none), (.slc (.nm 0) none (some (.nm 1)))])))])]
def f__law_rotations : Fn := ⟨1, 2, b__law_rotations⟩
/-- _law_turned: 0 word, 1 rows, 2 row -/
def b__law_turned : List T :=
  [.asg (.nm 1) (.call 22 [(.nm 0)]), .ret (.tup [(.mth .join (.cst (.str [])) [(.cmp [2] (.nm 2) .seq [(.nm 1)] [] (.op .idx [(.nm 2), (.op .neg [(.cst (.int 1))])]))]), (.op .len [(.cmp [2] (.nm 2) .seq [(.nm 1)] [(.op .lt [(.nm 2), (.nm 0)])] (.frz (.nm 2)))])])]
def f__law_turned : Fn := ⟨1, 3, b__law_turned⟩
/-- _law_steps: 0 row, 1 order, 2 places, 3 k, 4 letter -/
def b__law_steps : List T :=
  [.asg (.nm 1) (.op .sorted [(.cmp [3] (.nm 3) .rng1 [(.op .len [(.nm 0)])] [] (.tup [(.op .idx [(.nm 0), (.nm 3)]), (.frz (.nm 3))]))]), .asg (.nm 2) (.cmp [4, 3] (.tp [(.nm 4), (.nm 3)]) .seq [(.nm 1)] [] (.frz (.nm 3))), .ret (.cmp [3] (.nm 3) .rng1 [(.op .len [(.nm 0)])] [] (.mth .index (.nm 2) [(.nm 3)]))]
def f__law_steps : Fn := ⟨1, 5, b__law_steps⟩
/-- _law_circle: 0 row, 1 place, 2 steps, 3 turn, 4 word, 5 now -/
def b__law_circle : List T :=
  [.asg (.nm 2) (.call 24 [(.nm 0)]), .par [4, 5] [(.cst (.str [])), (.frz (.nm 1))], .fors (.nm 3) .rng1 [(.op .len [(.nm 0)])] [.asg (.nm 4) (.op .add [(.op .idx [(.nm 0), (.nm 5)]), (.nm 4)]), .asg (.nm 5) (.op .idx [(.nm 2), (.nm 5)]), .ifs (.op .eq [(.nm 5), (.nm 1)]) [.brk] []], .ret (.nm 4)]
def f__law_circle : Fn := ⟨2, 6, b__law_circle⟩
/-- _law_least: 0 word -/
def b__law_least : List T :=
  [.ret (.op .idx [(.call 22 [(.nm 0)]), (.cst (.int 0))])]
def f__law_least : Fn := ⟨1, 1, b__law_least⟩
/-- _law_paper: 0 row, 1 circles, 2 i, 3 j, 4 k -/
def b__law_paper : List T :=
  [.asg (.nm 1) (.cmp [4] (.nm 4) .rng1 [(.op .len [(.nm 0)])] [] (.frz (.call 26 [(.call 25 [(.nm 0), (.nm 4)])]))), .fors (.nm 2) .rng1 [(.op .len [(.nm 0)])] [.fors (.nm 3) .rng2 [(.op .add [(.nm 2), (.cst (.int 1))]), (.op .len [(.nm 0)])] [.ifs (.op .ne [(.op .idx [(.nm 1), (.nm 2)]), (.op .idx [(.nm 1), (.nm 3)])]) [.ret (.tup [(.cst (.str [112, 97, 114, 116, 101, 100])), (.frz (.nm 2)), (.frz (.nm 3))])] []]], .ret (.tup [(.cst (.str [116, 117, 114, 110, 101, 100])), (.frz (.call 26 [(.op .mul [(.op .idx [(.nm 1), (.cst (.int 0))]), (.op .fdiv [(.op .len [(.nm 0)]), (.op .len [(.op .idx [(.nm 1), (.cst (.int 0))])])])])]))])]
def f__law_paper : Fn := ⟨1, 5, b__law_paper⟩
/-- _law_is_paper: 0 row, 1 value, 2 i, 3 j, 4 one -/
def b__law_is_paper : List T :=
  [.ifs (.or [(.not (.op (.isi [.tuple]) [(.nm 1)])), (.not (.nm 1)), (.not (.op (.isi [.str]) [(.op .idx [(.nm 1), (.cst (.int 0))])]))]) [.ret (.cst (.bl false))] [], .ifs (.op .eq [(.op .idx [(.nm 1), (.cst (.int 0))]), (.cst (.str [116, 117, 114, 110, 101, 100]))]) [.ret (.and [(.op .eq [(.nm 1), (.call 27 [(.nm 0)])]), (.op .eq [(.op .len [(.nm 1)]), (.cst (.int 2))])])] [], .ifs (.or [(.op .ne [(.op .idx [(.nm 1), (.cst (.int 0))]), (.cst (.str [112, 97, 114, 116, 101, 100]))]), (.op .ne [(.op .len [(.nm 1)]), (.cst (.int 3))]), (.not (.op .all [(.cmp [4] (.nm 4) .seq [(.slc (.nm 1) (some (.cst (.int 1))) none)] [] (.frz (.call 16 [(.nm 4)])))]))]) [.ret (.cst (.bl false))] [], .asg (.tp [(.nm 2), (.nm 3)]) (.frz (.slc (.nm 1) (some (.cst (.int 1))) none)), .ifs (.not (.chain3 .le .lt .lt (.cst (.int 0)) (.nm 2) (.nm 3) (.op .len [(.nm 0)]))) [.ret (.cst (.bl false))] [], .ret (.op .ne [(.call 26 [(.call 25 [(.nm 0), (.nm 2)])]), (.call 26 [(.call 25 [(.nm 0), (.nm 3)])])])]
def f__law_is_paper : Fn := ⟨2, 5, b__law_is_paper⟩
/-- law: 0 script, 1 c, 2 letters, 3 word, 4 back, 5 other, 6 sizes, 7 at, 8 fits, 9 line, 10 row, 11 k, 12 paper, 13 turn, 14 beads, 15 one, 16 bent, 17 told, 18 size -/
def b_law : List T :=
  [.asg (.nm 1) (.call 13 [(.nm 0)]), .asg (.nm 2) (.op .idx [(.lst [(.cst (.str [97])), (.cst (.str [97, 98])), (.cst (.str [97, 98, 99]))]), (.call 15 [(.nm 1), (.cst (.int 3))])]), .asg (.nm 3) (.op .add [(.op .idx [(.nm 2), (.call 15 [(.nm 1), (.op .len [(.nm 2)])])]), (.call 19 [(.nm 1), (.nm 2), (.cst (.int 5))])]), .ifs (.and [(.op .eq [(.call 15 [(.nm 1), (.cst (.int 3))]), (.cst (.int 0))]), (.op .lt [(.op .len [(.nm 3)]), (.cst (.int 4))])]) [.asg (.nm 3) (.op .mul [(.nm 3), (.cst (.int 2))])] [], .asg (.tp [(.nm 10), (.nm 11)]) (.frz (.call 23 [(.nm 3)])), .ifs (.not (.call 17 [(.call 2 [(.nm 3)]), (.tup [(.frz (.nm 10)), (.frz (.nm 11))])])) [.ret (.cst (.bl false))] [], .asg (.nm 4) (.call 6 [(.nm 10), (.nm 11)]), .ifs (.op .ne [(.nm 4), (.nm 3)]) [.ret (.cst (.bl false))] [], .asg (.nm 5) (.mth .join (.cst (.str [])) [(.cmp [13] (.nm 13) .rng1 [(.op .add [(.cst (.int 1)), (.call 15 [(.nm 1), (.cst (.int 6))])])] [] (.op .idx [(.nm 2), (.call 15 [(.nm 1), (.op .len [(.nm 2)])])]))]), .asg (.nm 6) (.ife (.op .lt [(.op .len [(.nm 5)]), (.cst (.int 7))]) (.cmp [15] (.nm 15) .seq [(.call 18 [(.nm 2), (.op .len [(.nm 5)])])] [(.op .eq [(.op .idx [(.call 23 [(.nm 15)]), (.cst (.int 0))]), (.nm 5)])] (.frz (.nm 15))) (.lst [])), .asg (.nm 7) (.call 15 [(.nm 1), (.op .len [(.nm 5)])]), .asg (.nm 8) (.cmp [15] (.nm 15) .seq [(.nm 6)] [(.op .eq [(.op .idx [(.call 23 [(.nm 15)]), (.cst (.int 1))]), (.nm 7)])] (.frz (.nm 15))), .ifs (.op .ne [(.call 6 [(.nm 5), (.nm 7)]), (.ife (.nm 8) (.op .idx [(.nm 8), (.cst (.int 0))]) (.cst .non))]) [.ret (.cst (.bl false))] [], .fors (.nm 9) .seq [(.lst [(.frz (.nm 10)), (.frz (.nm 5))])] [.asg (.nm 12) (.call 8 [(.nm 9)]), .ifs (.or [(.not (.call 17 [(.nm 12), (.call 27 [(.nm 9)])])), (.and [(.op .eq [(.nm 9), (.nm 5)]), (.op .ne [(.op .eq [(.op .idx [(.nm 12), (.cst (.int 0))]), (.cst (.str [116, 117, 114, 110, 101, 100]))]), (.op .gt [(.op .len [(.nm 6)]), (.cst (.int 0))])])])]) [.ret (.cst (.bl false))] [], .ifs (.and [(.op .eq [(.op .idx [(.nm 12), (.cst (.int 0))]), (.cst (.str [116, 117, 114, 110, 101, 100]))]), (.op .ne [(.op .idx [(.call 23 [(.op .idx [(.nm 12), (.cst (.int 1))])]), (.cst (.int 0))]), (.nm 9)])]) [.ret (.cst (.bl false))] [], .fors (.nm 13) .rng1 [(.cst (.int 5))] [.asg (.nm 16) (.call 21 [(.nm 1), (.nm 12), (.nm 13)]), .asg (.nm 17) (.call 10 [(.nm 9), (.nm 16)]), .ifs (.or [(.not (.op (.isi [.bool]) [(.nm 17)])), (.op .ne [(.nm 17), (.call 28 [(.nm 9), (.nm 16)])])]) [.ret (.cst (.bl false))] []], .asg (.nm 14) (.call 11 [(.nm 9)]), .ifs (.or [(.op .ne [(.cmp [18, 15] (.tp [(.nm 18), (.nm 15)]) .seq [(.op .sorted [(.cmp [15] (.nm 15) .seq [(.nm 14)] [] (.tup [(.op .len [(.nm 15)]), (.frz (.nm 15))]))])] [] (.frz (.nm 15))), (.op .list [(.nm 14)])]), (.op .ne [(.op .sorted [(.mth .join (.cst (.str [])) [(.nm 14)])]), (.op .sorted [(.nm 9)])]), (.op .ne [(.call 12 [(.nm 14)]), (.nm 9)])]) [.ret (.cst (.bl false))] [], .fors (.nm 15) .seq [(.nm 14)] [.ifs (.or [(.op .ne [(.nm 15), (.call 26 [(.nm 15)])]), (.op .any [(.cmp [18] (.nm 18) .rng2 [(.cst (.int 1)), (.op .len [(.nm 15)])] [] (.op .eq [(.nm 15), (.op .mul [(.slc (.nm 15) none (some (.nm 18))), (.op .fdiv [(.op .len [(.nm 15)]), (.nm 18)])])]))])]) [.ret (.cst (.bl false))] []]], .ret (.cst (.bl true))]
def f_law : Fn := ⟨1, 19, b_law⟩
def prog : List Fn := [f_is_integer, f_rotations, f_turned_row, f_steps_of, f_circle_from, f_word_of, f_read_turned, f_least_rotation, f_turned_paper, f_first_unlike, f_judge_turned, f_necklaces_of, f_row_of, f__law_start, f__law_fill, f__law_take, f__law_is_int, f__law_alike, f__law_words, f__law_word, f__law_spoilt, f__law_bent, f__law_rotations, f__law_turned, f__law_steps, f__law_circle, f__law_least, f__law_paper, f__law_is_paper, f_law]
def glos : List (PySem.Str × P) := []
def G : List P := glos.map (·.2)
end k45
end Sw
set_option maxHeartbeats 0
namespace Sw
namespace k45
open PySem PySem.Spec PyProof.Rows L2
def top (i : Nat) : Stmt := PySem.Challenge.pw_signworth_k45_rotations_and_necklaces.main.body.getD i (.Pass ⟨0, 0, 0, 0⟩)
def d_is_integer : He.DefD := ⟨("is_integer", none), "is_integer", "is_integer", defArgs (top 1), defBody (top 1), defScope (top 1), [], []⟩
def d_rotations : He.DefD := ⟨("rotations", none), "rotations", "rotations", defArgs (top 3), defBody (top 3), defScope (top 3), [], []⟩
def d_turned_row : He.DefD := ⟨("turned_row", none), "turned_row", "turned_row", defArgs (top 4), defBody (top 4), defScope (top 4), [], []⟩
def d_steps_of : He.DefD := ⟨("steps_of", none), "steps_of", "steps_of", defArgs (top 5), defBody (top 5), defScope (top 5), [], []⟩
def d_circle_from : He.DefD := ⟨("circle_from", none), "circle_from", "circle_from", defArgs (top 6), defBody (top 6), defScope (top 6), [], []⟩
def d_word_of : He.DefD := ⟨("word_of", none), "word_of", "word_of", defArgs (top 7), defBody (top 7), defScope (top 7), [], []⟩
def d_read_turned : He.DefD := ⟨("read_turned", none), "read_turned", "read_turned", defArgs (top 8), defBody (top 8), defScope (top 8), [], []⟩
def d_least_rotation : He.DefD := ⟨("least_rotation", none), "least_rotation", "least_rotation", defArgs (top 9), defBody (top 9), defScope (top 9), [], []⟩
def d_turned_paper : He.DefD := ⟨("turned_paper", none), "turned_paper", "turned_paper", defArgs (top 10), defBody (top 10), defScope (top 10), [], []⟩
def d_first_unlike : He.DefD := ⟨("first_unlike", none), "first_unlike", "first_unlike", defArgs (top 11), defBody (top 11), defScope (top 11), [], []⟩
def d_judge_turned : He.DefD := ⟨("judge_turned", none), "judge_turned", "judge_turned", defArgs (top 12), defBody (top 12), defScope (top 12), [], []⟩
def d_necklaces_of : He.DefD := ⟨("necklaces_of", none), "necklaces_of", "necklaces_of", defArgs (top 13), defBody (top 13), defScope (top 13), [], []⟩
def d_row_of : He.DefD := ⟨("row_of", none), "row_of", "row_of", defArgs (top 14), defBody (top 14), defScope (top 14), [], []⟩
def d__law_start : He.DefD := ⟨("_law_start", none), "_law_start", "_law_start", defArgs (top 16), defBody (top 16), defScope (top 16), [], []⟩
def d__law_fill : He.DefD := ⟨("_law_fill", none), "_law_fill", "_law_fill", defArgs (top 17), defBody (top 17), defScope (top 17), [], []⟩
def d__law_take : He.DefD := ⟨("_law_take", none), "_law_take", "_law_take", defArgs (top 18), defBody (top 18), defScope (top 18), [], []⟩
def d__law_is_int : He.DefD := ⟨("_law_is_int", none), "_law_is_int", "_law_is_int", defArgs (top 19), defBody (top 19), defScope (top 19), [], []⟩
def d__law_alike : He.DefD := ⟨("_law_alike", none), "_law_alike", "_law_alike", defArgs (top 20), defBody (top 20), defScope (top 20), [], []⟩
def d__law_words : He.DefD := ⟨("_law_words", none), "_law_words", "_law_words", defArgs (top 21), defBody (top 21), defScope (top 21), [], []⟩
def d__law_word : He.DefD := ⟨("_law_word", none), "_law_word", "_law_word", defArgs (top 22), defBody (top 22), defScope (top 22), [], []⟩
def d__law_spoilt : He.DefD := ⟨("_law_spoilt", none), "_law_spoilt", "_law_spoilt", defArgs (top 23), defBody (top 23), defScope (top 23), [], []⟩
def d__law_bent : He.DefD := ⟨("_law_bent", none), "_law_bent", "_law_bent", defArgs (top 24), defBody (top 24), defScope (top 24), [], []⟩
def d__law_rotations : He.DefD := ⟨("_law_rotations", none), "_law_rotations", "_law_rotations", defArgs (top 25), defBody (top 25), defScope (top 25), [], []⟩
def d__law_turned : He.DefD := ⟨("_law_turned", none), "_law_turned", "_law_turned", defArgs (top 26), defBody (top 26), defScope (top 26), [], []⟩
def d__law_steps : He.DefD := ⟨("_law_steps", none), "_law_steps", "_law_steps", defArgs (top 27), defBody (top 27), defScope (top 27), [], []⟩
def d__law_circle : He.DefD := ⟨("_law_circle", none), "_law_circle", "_law_circle", defArgs (top 28), defBody (top 28), defScope (top 28), [], []⟩
def d__law_least : He.DefD := ⟨("_law_least", none), "_law_least", "_law_least", defArgs (top 29), defBody (top 29), defScope (top 29), [], []⟩
def d__law_paper : He.DefD := ⟨("_law_paper", none), "_law_paper", "_law_paper", defArgs (top 30), defBody (top 30), defScope (top 30), [], []⟩
def d__law_is_paper : He.DefD := ⟨("_law_is_paper", none), "_law_is_paper", "_law_is_paper", defArgs (top 31), defBody (top 31), defScope (top 31), [], []⟩
def d_law : He.DefD := ⟨("law", none), "law", "law", defArgs (top 32), defBody (top 32), defScope (top 32), [], []⟩
def fn : List He.DefD := [d_is_integer, d_rotations, d_turned_row, d_steps_of, d_circle_from, d_word_of, d_read_turned, d_least_rotation, d_turned_paper, d_first_unlike, d_judge_turned, d_necklaces_of, d_row_of, d__law_start, d__law_fill, d__law_take, d__law_is_int, d__law_alike, d__law_words, d__law_word, d__law_spoilt, d__law_bent, d__law_rotations, d__law_turned, d__law_steps, d__law_circle, d__law_least, d__law_paper, d__law_is_paper, d_law]
def fa : List He.Fa := [.glo "is_integer", .glo "rotations", .glo "turned_row", .glo "steps_of", .glo "circle_from", .glo "word_of", .glo "read_turned", .glo "least_rotation", .glo "turned_paper", .glo "first_unlike", .glo "judge_turned", .glo "necklaces_of", .glo "row_of", .glo "_law_start", .glo "_law_fill", .glo "_law_take", .glo "_law_is_int", .glo "_law_alike", .glo "_law_words", .glo "_law_word", .glo "_law_spoilt", .glo "_law_bent", .glo "_law_rotations", .glo "_law_turned", .glo "_law_steps", .glo "_law_circle", .glo "_law_least", .glo "_law_paper", .glo "_law_is_paper", .glo "law", .free "len", .free "list", .free "tuple", .free "min", .free "max", .free "int", .free "abs", .free "sum", .free "all", .free "any", .free "isinstance", .free "bool", .free "str", .free "range", .free "enumerate", .free "zip", .free "sorted", .free "repr"]
def loose : List Str := (["is_integer", "rotations", "turned_row", "steps_of", "circle_from", "word_of", "read_turned", "least_rotation", "turned_paper", "first_unlike", "judge_turned", "necklaces_of", "row_of", "_law_start", "_law_fill", "_law_take", "_law_is_int", "_law_alike", "_law_words", "_law_word", "_law_spoilt", "_law_bent", "_law_rotations", "_law_turned", "_law_steps", "_law_circle", "_law_least", "_law_paper", "_law_is_paper"] : List Str)
def defs : List DS := [⟨d_is_integer, (["value"] : List Str), (["value"] : List Str), f_is_integer⟩, ⟨d_rotations, (["word"] : List Str), (["word", "k"] : List Str), f_rotations⟩, ⟨d_turned_row, (["word"] : List Str), (["word", "rows", "row"] : List Str), f_turned_row⟩, ⟨d_steps_of, (["row"] : List Str), (["row", "order", "found", "number", "letter", "k"] : List Str), f_steps_of⟩, ⟨d_circle_from, (["steps", "place"] : List Str), (["steps", "place", "found"] : List Str), f_circle_from⟩, ⟨d_word_of, (["row", "steps", "place"] : List Str), (["row", "steps", "place", "k"] : List Str), f_word_of⟩, ⟨d_read_turned, (["row", "k"] : List Str), (["row", "k", "steps", "word"] : List Str), f_read_turned⟩, ⟨d_least_rotation, (["word"] : List Str), (["word"] : List Str), f_least_rotation⟩, ⟨d_turned_paper, (["row"] : List Str), (["row", "steps", "words", "pair", "k"] : List Str), f_turned_paper⟩, ⟨d_first_unlike, (["words"] : List Str), (["words", "i", "j"] : List Str), f_first_unlike⟩, ⟨d_judge_turned, (["row", "value"] : List Str), (["row", "value", "steps", "first", "second", "k"] : List Str), f_judge_turned⟩, ⟨d_necklaces_of, (["row"] : List Str), (["row", "steps", "seen", "found", "k", "place", "many", "word"] : List Str), f_necklaces_of⟩, ⟨d_row_of, (["necklaces"] : List Str), (["necklaces", "longest", "rows", "word", "one", "again", "last"] : List Str), f_row_of⟩, ⟨d__law_start, (["script"] : List Str), (["script", "cell"] : List Str), f__law_start⟩, ⟨d__law_fill, (["c"] : List Str), (["c", "number"] : List Str), f__law_fill⟩, ⟨d__law_take, (["c", "many"] : List Str), (["c", "many", "digit"] : List Str), f__law_take⟩, ⟨d__law_is_int, (["value"] : List Str), (["value"] : List Str), f__law_is_int⟩, ⟨d__law_alike, (["value", "due"] : List Str), (["value", "due", "k"] : List Str), f__law_alike⟩, ⟨d__law_words, (["letters", "n"] : List Str), (["letters", "n", "found", "turn", "more", "word", "letter"] : List Str), f__law_words⟩, ⟨d__law_word, (["c", "letters", "most"] : List Str), (["c", "letters", "most", "k"] : List Str), f__law_word⟩, ⟨d__law_spoilt, (["c", "value"] : List Str), (["c", "value", "k"] : List Str), f__law_spoilt⟩, ⟨d__law_bent, (["c", "value", "turn"] : List Str), (["c", "value", "turn", "k"] : List Str), f__law_bent⟩, ⟨d__law_rotations, (["word"] : List Str), (["word", "k"] : List Str), f__law_rotations⟩, ⟨d__law_turned, (["word"] : List Str), (["word", "rows", "row"] : List Str), f__law_turned⟩, ⟨d__law_steps, (["row"] : List Str), (["row", "order", "places", "k", "letter"] : List Str), f__law_steps⟩, ⟨d__law_circle, (["row", "place"] : List Str), (["row", "place", "steps", "turn", "word", "now"] : List Str), f__law_circle⟩, ⟨d__law_least, (["word"] : List Str), (["word"] : List Str), f__law_least⟩, ⟨d__law_paper, (["row"] : List Str), (["row", "circles", "i", "j", "k"] : List Str), f__law_paper⟩, ⟨d__law_is_paper, (["row", "value"] : List Str), (["row", "value", "i", "j", "one"] : List Str), f__law_is_paper⟩, ⟨d_law, (["script"] : List Str), (["script", "c", "letters", "word", "back", "other", "sizes", "at", "fits", "line", "row", "k", "paper", "turn", "beads", "one", "bent", "told", "size"] : List Str), f_law⟩]
abbrev R : PySem.W.OpenRow := PySem.W.OpenLaw.row PySem.Challenge.rw_signworth_k45_rotations_and_necklaces
abbrev hk : PySem.W.Hook := He.hookD 4 fa fn
def ob (s : PySem.W.SharedT) : He.AlD := He.obsDG 4 fa fn (HandSHeadRun.getT s)
theorem ob_eq (s : PySem.W.SharedT) : ob s = hk.obs s.abs := He.obsDG_eq (HandSHeadRun.getT_eq s)
theorem run (w : World) : HandSHeadRun.RunEq R (PySem.W.view R.prog [32]) hk ob 100000 loose w := by
  intro os
  kernel_rfl
theorem chk_all : (defs.all fun D => okD (fnsOf defs) glos D) = true := by decide +kernel
theorem prog_eq : progOf defs = prog := rfl
theorem bind_all : ∀ D ∈ defs, ∀ (kV doc pm : Value) (an : Option Addr) (cdv ct : Value) (us : List Value), us.length = D.ps.length → bindArgs (PySem.W.fnOf D.d.name D.d.qual D.d.params D.d.body D.d.scope .none kV doc pm an cdv ct) ⟨us, []⟩ = pure (D.ps.zip us) := by
  intro D hD
  simp only [defs, List.mem_cons, List.not_mem_nil, or_false] at hD
  rcases hD with rfl | rfl | rfl | rfl | rfl | rfl | rfl | rfl | rfl | rfl | rfl | rfl | rfl | rfl | rfl | rfl | rfl | rfl | rfl | rfl | rfl | rfl | rfl | rfl | rfl | rfl | rfl | rfl | rfl | rfl
  · exact fun kV doc pm an cdv ct us hl => match us, hl with | [_], _ => rfl
  · exact fun kV doc pm an cdv ct us hl => match us, hl with | [_], _ => rfl
  · exact fun kV doc pm an cdv ct us hl => match us, hl with | [_], _ => rfl
  · exact fun kV doc pm an cdv ct us hl => match us, hl with | [_], _ => rfl
  · exact fun kV doc pm an cdv ct us hl => match us, hl with | [_, _], _ => rfl
  · exact fun kV doc pm an cdv ct us hl => match us, hl with | [_, _, _], _ => rfl
  · exact fun kV doc pm an cdv ct us hl => match us, hl with | [_, _], _ => rfl
  · exact fun kV doc pm an cdv ct us hl => match us, hl with | [_], _ => rfl
  · exact fun kV doc pm an cdv ct us hl => match us, hl with | [_], _ => rfl
  · exact fun kV doc pm an cdv ct us hl => match us, hl with | [_], _ => rfl
  · exact fun kV doc pm an cdv ct us hl => match us, hl with | [_, _], _ => rfl
  · exact fun kV doc pm an cdv ct us hl => match us, hl with | [_], _ => rfl
  · exact fun kV doc pm an cdv ct us hl => match us, hl with | [_], _ => rfl
  · exact fun kV doc pm an cdv ct us hl => match us, hl with | [_], _ => rfl
  · exact fun kV doc pm an cdv ct us hl => match us, hl with | [_], _ => rfl
  · exact fun kV doc pm an cdv ct us hl => match us, hl with | [_, _], _ => rfl
  · exact fun kV doc pm an cdv ct us hl => match us, hl with | [_], _ => rfl
  · exact fun kV doc pm an cdv ct us hl => match us, hl with | [_, _], _ => rfl
  · exact fun kV doc pm an cdv ct us hl => match us, hl with | [_, _], _ => rfl
  · exact fun kV doc pm an cdv ct us hl => match us, hl with | [_, _, _], _ => rfl
  · exact fun kV doc pm an cdv ct us hl => match us, hl with | [_, _], _ => rfl
  · exact fun kV doc pm an cdv ct us hl => match us, hl with | [_, _, _], _ => rfl
  · exact fun kV doc pm an cdv ct us hl => match us, hl with | [_], _ => rfl
  · exact fun kV doc pm an cdv ct us hl => match us, hl with | [_], _ => rfl
  · exact fun kV doc pm an cdv ct us hl => match us, hl with | [_], _ => rfl
  · exact fun kV doc pm an cdv ct us hl => match us, hl with | [_, _], _ => rfl
  · exact fun kV doc pm an cdv ct us hl => match us, hl with | [_], _ => rfl
  · exact fun kV doc pm an cdv ct us hl => match us, hl with | [_], _ => rfl
  · exact fun kV doc pm an cdv ct us hl => match us, hl with | [_, _], _ => rfl
  · exact fun kV doc pm an cdv ct us hl => match us, hl with | [_], _ => rfl
theorem world {K : PySem.W.Frag} {mg : Str → Option Value} {h : Heap} (KX : K.In h) (c : He.SaysD fa fn K) (Gm : h.Ns mainGlobals mg) : World0 K mg defs glos := by
  refine ⟨fun D hD => ?_, bind_all, fun D hD => List.all_eq_true.mp chk_all D hD, fun j x p hj => ?_, fun x hx => ?_⟩
  · simp only [defs, List.mem_cons, List.not_mem_nil, or_false] at hD
    rcases hD with rfl | rfl | rfl | rfl | rfl | rfl | rfl | rfl | rfl | rfl | rfl | rfl | rfl | rfl | rfl | rfl | rfl | rfl | rfl | rfl | rfl | rfl | rfl | rfl | rfl | rfl | rfl | rfl | rfl | rfl
    · exact ⟨He.glo_ok KX Gm (c.fact 0), c.def_ 0⟩
    · exact ⟨He.glo_ok KX Gm (c.fact 1), c.def_ 1⟩
    · exact ⟨He.glo_ok KX Gm (c.fact 2), c.def_ 2⟩
    · exact ⟨He.glo_ok KX Gm (c.fact 3), c.def_ 3⟩
    · exact ⟨He.glo_ok KX Gm (c.fact 4), c.def_ 4⟩
    · exact ⟨He.glo_ok KX Gm (c.fact 5), c.def_ 5⟩
    · exact ⟨He.glo_ok KX Gm (c.fact 6), c.def_ 6⟩
    · exact ⟨He.glo_ok KX Gm (c.fact 7), c.def_ 7⟩
    · exact ⟨He.glo_ok KX Gm (c.fact 8), c.def_ 8⟩
    · exact ⟨He.glo_ok KX Gm (c.fact 9), c.def_ 9⟩
    · exact ⟨He.glo_ok KX Gm (c.fact 10), c.def_ 10⟩
    · exact ⟨He.glo_ok KX Gm (c.fact 11), c.def_ 11⟩
    · exact ⟨He.glo_ok KX Gm (c.fact 12), c.def_ 12⟩
    · exact ⟨He.glo_ok KX Gm (c.fact 13), c.def_ 13⟩
    · exact ⟨He.glo_ok KX Gm (c.fact 14), c.def_ 14⟩
    · exact ⟨He.glo_ok KX Gm (c.fact 15), c.def_ 15⟩
    · exact ⟨He.glo_ok KX Gm (c.fact 16), c.def_ 16⟩
    · exact ⟨He.glo_ok KX Gm (c.fact 17), c.def_ 17⟩
    · exact ⟨He.glo_ok KX Gm (c.fact 18), c.def_ 18⟩
    · exact ⟨He.glo_ok KX Gm (c.fact 19), c.def_ 19⟩
    · exact ⟨He.glo_ok KX Gm (c.fact 20), c.def_ 20⟩
    · exact ⟨He.glo_ok KX Gm (c.fact 21), c.def_ 21⟩
    · exact ⟨He.glo_ok KX Gm (c.fact 22), c.def_ 22⟩
    · exact ⟨He.glo_ok KX Gm (c.fact 23), c.def_ 23⟩
    · exact ⟨He.glo_ok KX Gm (c.fact 24), c.def_ 24⟩
    · exact ⟨He.glo_ok KX Gm (c.fact 25), c.def_ 25⟩
    · exact ⟨He.glo_ok KX Gm (c.fact 26), c.def_ 26⟩
    · exact ⟨He.glo_ok KX Gm (c.fact 27), c.def_ 27⟩
    · exact ⟨He.glo_ok KX Gm (c.fact 28), c.def_ 28⟩
    · exact ⟨He.glo_ok KX Gm (c.fact 29), c.def_ 29⟩
  · cases hj
  · simp only [bltNames, List.mem_cons, List.not_mem_nil, or_false] at hx
    rcases hx with rfl | rfl | rfl | rfl | rfl | rfl | rfl | rfl | rfl | rfl | rfl | rfl | rfl | rfl | rfl | rfl | rfl | rfl
    · exact He.free_ok KX Gm (c.fact 30)
    · exact He.free_ok KX Gm (c.fact 31)
    · exact He.free_ok KX Gm (c.fact 32)
    · exact He.free_ok KX Gm (c.fact 33)
    · exact He.free_ok KX Gm (c.fact 34)
    · exact He.free_ok KX Gm (c.fact 35)
    · exact He.free_ok KX Gm (c.fact 36)
    · exact He.free_ok KX Gm (c.fact 37)
    · exact He.free_ok KX Gm (c.fact 38)
    · exact He.free_ok KX Gm (c.fact 39)
    · exact He.free_ok KX Gm (c.fact 40)
    · exact He.free_ok KX Gm (c.fact 41)
    · exact He.free_ok KX Gm (c.fact 42)
    · exact He.free_ok KX Gm (c.fact 43)
    · exact He.free_ok KX Gm (c.fact 44)
    · exact He.free_ok KX Gm (c.fact 45)
    · exact He.free_ok KX Gm (c.fact 46)
    · exact He.free_ok KX Gm (c.fact 47)
open PySem PySem.W PySem.Calls PyProof.Rows
theorem holds_of (hl : ∀ ns : List Int, ns.length ≤ 63 → ∃ rs, callF prog G 200 29 [.imm (.lst (ns.map P.int))] = some (.imm (.bl true), rs)) : PySem.Challenge.rw_signworth_k45_rotations_and_necklaces.Holds := by
  w_on; o_law
  refine HandSHeadRun.head_any (r := OpenLaw.row PySem.Challenge.rw_signworth_k45_rotations_and_necklaces) (q := view (OpenLaw.row PySem.Challenge.rw_signworth_k45_rotations_and_necklaces).prog [32]) (H := hk) (ob := ob) (M := 100000) (loose := loose) (d := HandSHeadRun.topDef (OpenLaw.row PySem.Challenge.rw_signworth_k45_rotations_and_necklaces).prog 32) (kwd := []) ob_eq
    (by kernel_rfl) (fun s => by kernel_rfl) run (by kernel_rfl) (by kernel_rfl) (by kernel_rfl) (by rfl) (by first | assumption | decide +kernel) (by decide +kernel) ⟨rfl, rfl, rfl, rfl, rfl, by decide +kernel⟩ ?hw ?hc
  case hw => w_witness2
  case hc =>
    refine L2.walk_ofE (l := PySem.Challenge.rw_signworth_k45_rotations_and_necklaces) (n := 63) (k := 200) (x := "script") (CX := L2.CX0) rfl (by decide) (by kernel_rfl) ⟨rfl, by decide, by decide⟩ ?F (fun _ _ _ _ z => z)
    intro w mg fa h Y Gm hmg0
    obtain ⟨K, KX, c⟩ := Y
    have hmg : mg ("law" : PySem.Str) = some (.ref fa) := by
      have e : (HandSHeadRun.topDef (OpenLaw.row PySem.Challenge.rw_signworth_k45_rotations_and_necklaces).prog 32).name = ("law" : PySem.Str) := by kernel_rfl
      rw [← e]
      exact hmg0
    have W0 := world KX c Gm
    have hfa : fa = He.fAd K ("law", none) := by
      have := (W0.fns _ (List.mem_of_getElem? (show defs[29]? = some _ from rfl))).1
      have e2 : mg "law" = some (.ref (He.fAd K ("law", none))) := this
      rw [hmg] at e2
      cases e2
      rfl
    obtain ⟨_, fd, F⟩ := W0.fns _ (List.mem_of_getElem? (show defs[29]? = some _ from rfl))
    subst hfa
    refine ⟨K, fd, _, KX, fun s u => (fn_all W0 (PySem.Challenge.rw_signworth_k45_rotations_and_necklaces).prog w h 0 29 _ fd rfl F).2.2.1 s [u] rfl, law_sp (prog := prog) (G := G) (k := 200) (j := 29) hl, fun base b1 b2 => ?_⟩
    exact (fn_all W0 (PySem.Challenge.rw_signworth_k45_rotations_and_necklaces).prog w base 200 29 _ fd rfl F).2.2.2
end k45
end Sw
/-! Sx: the evaluator, step by step, by simp. -/
namespace Sw
section
variable {Φ : CallS} {G : List P} {e : En}
@[simp] theorem sx_nm (i : Nat) : evo Φ G (.nm i) e = (nmSem i e).bind fun o => some (o, e) := by simp only [evo]
@[simp] theorem sx_cst (p : P) : evo Φ G (.cst p) e = some (.tmp (.imm p), e) := by simp only [evo]
@[simp] theorem sx_glo (x : Nat) : evo Φ G (.glo x) e = (G[x]?).bind fun p => some (.tmp (.imm p), e) := by simp only [evo]
@[simp] theorem sx_mv (x : Nat) : evo Φ G (.mv x) e = mvSem x e := by simp only [evo]
@[simp] theorem sx_tup (es : List E) : evo Φ G (.tup es) e = (evos Φ G es e).bind fun r => (immOs r.1).bind fun ps => if ps.length ≤ line then some (.tmp (.imm (.tup ps)), r.2) else none := by simp only [evo]
@[simp] theorem sx_lst (es : List E) : evo Φ G (.lst es) e = (evos Φ G es e).bind fun r => (immOs r.1).bind fun ps => if ps.length ≤ line then some (.tmp (.lst ps), r.2) else none := by simp only [evo]
@[simp] theorem sx_op (o : Op) (es : List E) : evo Φ G (.op o es) e = (evos Φ G es e).bind fun r => (resvs r.2 r.1).bind fun ds => (opSem o ds).bind fun d => some (.tmp d, r.2) := by simp only [evo]
@[simp] theorem sx_mth (o : Op) (a : E) (es : List E) : evo Φ G (.mth o a es) e = (evo Φ G a e).bind fun x => (resv x.2 x.1).bind fun d0 => if rcvOk o d0 then (evos Φ G es x.2).bind fun r => (resvs r.2 (x.1 :: r.1)).bind fun ds => (opSem o ds).bind fun d => some (.tmp d, r.2) else none := by simp only [evo]
@[simp] theorem sx_chain (o1 o2 : Op) (a b c : E) : evo Φ G (.chain o1 o2 a b c) e = (evo Φ G a e).bind fun x => (evo Φ G b x.2).bind fun y => (resvs y.2 [x.1, y.1]).bind fun ds => (opSem o1 ds).bind fun r =>
      (match r with
      | .imm (.bl true) => (evo Φ G c y.2).bind fun z => (resvs z.2 [y.1, z.1]).bind fun ds => (opSem o2 ds).bind fun d => some (.tmp d, z.2)
      | .imm (.bl false) => some (.tmp (.imm (.bl false)), y.2)
      | _ => none) := by simp only [evo] <;> rfl
@[simp] theorem sx_chain3 (o1 o2 o3 : Op) (a b c d : E) : evo Φ G (.chain3 o1 o2 o3 a b c d) e = (evo Φ G a e).bind fun x => (evo Φ G b x.2).bind fun y => (resvs y.2 [x.1, y.1]).bind fun ds => (opSem o1 ds).bind fun r =>
      (match r with
      | .imm (.bl true) => (evo Φ G c y.2).bind fun z => (resvs z.2 [y.1, z.1]).bind fun ds => (opSem o2 ds).bind fun r =>
        (match r with
        | .imm (.bl true) => (evo Φ G d z.2).bind fun w => (resvs w.2 [z.1, w.1]).bind fun ds => (opSem o3 ds).bind fun r => some (.tmp r, w.2)
        | .imm (.bl false) => some (.tmp (.imm (.bl false)), z.2)
        | _ => none)
      | .imm (.bl false) => some (.tmp (.imm (.bl false)), y.2)
      | _ => none) := by simp only [evo] <;> rfl
@[simp] theorem sx_dnew (t : Bool) : evo Φ G (.dnew t) e = some (.tmp (.dic t []), e) := by simp only [evo]
@[simp] theorem sx_dlit (t : Bool) (es : List E) : evo Φ G (.dlit t es) e = (evos Φ G es e).bind fun r => (immOs r.1).bind fun ps => (mkD t ps []).bind fun kvs => some (.tmp (.dic t kvs), r.2) := by simp only [evo]
@[simp] theorem sx_lsi (tu : Bool) (k : IK) (as : List E) : evo Φ G (.lsi tu k as) e = (evos Φ G as e).bind fun r => (resvs r.2 r.1).bind fun ds => (items k ds).bind fun ps => if ps.length ≤ line then some (.tmp (if tu then .imm (.tup ps) else .lst ps), r.2) else none := by simp only [evo]
@[simp] theorem sx_and (es : List E) : evo Φ G (.and es) e = evand Φ G es e := by simp only [evo]
@[simp] theorem sx_or (es : List E) : evo Φ G (.or es) e = evor Φ G es e := by simp only [evo]
@[simp] theorem sx_not (a : E) : evo Φ G (.not a) e = (evo Φ G a e).bind fun x => (resv x.2 x.1).bind fun d => (truth d).bind fun b => some (.tmp (.imm (.bl (!b))), x.2) := by simp only [evo]
@[simp] theorem sx_ife (t a b : E) : evo Φ G (.ife t a b) e = (evo Φ G t e).bind fun x => (resv x.2 x.1).bind fun d => (truth d).bind fun k => if k then evo Φ G a x.2 else evo Φ G b x.2 := by simp only [evo]
@[simp] theorem sx_slc (a : E) (lo hi : Option E) : evo Φ G (.slc a lo hi) e = (evo Φ G a e).bind fun x => (evopt Φ G lo x.2).bind fun l => (evopt Φ G hi l.2).bind fun h => (resv h.2 x.1).bind fun d => (slcSem d l.1 h.1).bind fun r => some (.tmp r, h.2) := by simp only [evo]
@[simp] theorem sx_mut (m : MOp) (i : Nat) (es : List E) : evo Φ G (.mut m i es) e = (getE e i).bind fun d0 => (listOf d0).bind fun _ => (evos Φ G es e).bind fun r => (mutDo m i r.1 r.2).bind fun q => some (.tmp (.imm q.1), q.2) := by simp only [evo]
@[simp] theorem sx_call (f : Nat) (es : List E) : evo Φ G (.call f es) e = (evos Φ G es e).bind fun r => (resvs r.2 r.1).bind fun ds => (Φ f ds).bind fun q => (back r.1 ds q.2 r.2).bind fun e2 => some (.tmp q.1, e2) := by simp only [evo]
@[simp] theorem sx_frz (a : E) : evo Φ G (.frz a) e = (evo Φ G a e).bind fun x => (frzSem x.1 x.2).bind fun q => some (.tmp (.imm q.1), q.2) := by simp only [evo]
def stepCc (Φ : CallS) (G : List P) (own : List Nat) (t : Pat) (tests : List E) (elt : E) (os : List Opd) (e1 : En) (p : P) (acc : List P) (e2 : En) : Option (List P × En) :=
  (bindP t p e2).bind fun e3 => (evtests Φ G tests e3).bind fun b =>
    if b.1 then (evo Φ G elt b.2).bind fun x => (immO x.1).bind fun q => if lockOk os e1 x.2 ∧ acc.length < line then some (acc ++ [q], wipeE x.2 own) else none
    else if lockOk os e1 b.2 then some (acc, wipeE b.2 own) else none
@[simp] theorem sx_cmp (own : List Nat) (t : Pat) (k : IK) (as tests : List E) (elt : E) : evo Φ G (.cmp own t k as tests elt) e = (evos Φ G as e).bind fun r => (resvs r.2 r.1).bind fun ds => (items k ds).bind fun ps =>
      if freeOf r.1 own then (compL (stepCc Φ G own t tests elt r.1 r.2) ps [] (wipeE r.2 own)).bind fun z => some (.tmp (.lst z.1), putBack z.2 r.2 own) else none := by simp only [evo]; rfl
@[simp] theorem sx_nil : evos Φ G [] e = some ([], e) := by simp only [evos]
@[simp] theorem sx_cons (a : E) (as : List E) : evos Φ G (a :: as) e = (evo Φ G a e).bind fun x => (evos Φ G as x.2).bind fun xs => some (x.1 :: xs.1, xs.2) := by simp only [evos]
@[simp] theorem sx_on : evopt Φ G none e = some (none, e) := by simp only [evopt]
@[simp] theorem sx_os (a : E) : evopt Φ G (some a) e = (evo Φ G a e).bind fun x => (intO x.1).bind fun i => some (some i, x.2) := by simp only [evopt]
@[simp] theorem sx_and1 (a : E) : evand Φ G [a] e = evo Φ G a e := by simp only [evand]
@[simp] theorem sx_and2 (a b : E) (as : List E) : evand Φ G (a :: b :: as) e = (evo Φ G a e).bind fun x => (resv x.2 x.1).bind fun d => (truth d).bind fun k => if k then evand Φ G (b :: as) x.2 else some x := by rw [evand]
@[simp] theorem sx_or1 (a : E) : evor Φ G [a] e = evo Φ G a e := by simp only [evor]
@[simp] theorem sx_or2 (a b : E) (as : List E) : evor Φ G (a :: b :: as) e = (evo Φ G a e).bind fun x => (resv x.2 x.1).bind fun d => (truth d).bind fun k => if k then some x else evor Φ G (b :: as) x.2 := by rw [evor]
@[simp] theorem sx_t0 : evtests Φ G [] e = some (true, e) := by simp only [evtests]
@[simp] theorem sx_t1 (a : E) : evtests Φ G [a] e = (evo Φ G a e).bind fun x => (resv x.2 x.1).bind fun d => (truth d).bind fun b => some (b, x.2) := by simp only [evtests]
/-! statements -/
@[simp] theorem sx_asg (t : Pat) (a : E) : ex Φ G (.asg t a) e = (evo Φ G a e).bind fun x => (asgD t x.1 x.2).bind fun e' => some (.nx, e') := by simp only [ex]
@[simp] theorem sx_par (is : List Nat) (es : List E) : ex Φ G (.par is es) e = (evos Φ G es e).bind fun r => (setAll is r.1 r.2).bind fun e' => some (.nx, e') := by simp only [ex]
@[simp] theorem sx_aug (i : Nat) (o : Op) (a : E) : ex Φ G (.aug i o a) e = (nmSem i e).bind fun u => (evo Φ G a e).bind fun y => (resvs y.2 [u, y.1]).bind fun ds => (match ds with
      | [du, dy] => augSem o du dy
      | _ => none).bind fun d => some (.nx, y.2.set i (some d)) := by simp only [ex] <;> rfl
@[simp] theorem sx_sto (i : Nat) (k a : E) : ex Φ G (.sto i k a) e = (evo Φ G a e).bind fun x => (immO x.1).bind fun p => (getE x.2 i).bind fun _ => (evo Φ G k x.2).bind fun y => (immO y.1).bind fun q => (stoSem i q p y.2).bind fun e' => some (.nx, e') := by simp only [ex]
@[simp] theorem sx_augs (i : Nat) (k a : E) (o : Op) : ex Φ G (.augs i k o a) e = (getE e i).bind fun _ => (evo Φ G k e).bind fun y => (immO y.1).bind fun q => (getE y.2 i).bind fun d1 => (if isImm d1 then none else opSem .idx [d1, .imm q]).bind fun old => (evo Φ G a y.2).bind fun x => (resv x.2 x.1).bind fun dx => (augSem o old dx).bind fun new => (toImm new).bind fun p => (stoSem i q p x.2).bind fun e' => some (.nx, e') := by simp only [ex]
@[simp] theorem sx_sto2 (i j : Nat) (k1 k2 a b : E) : ex Φ G (.sto2 i k1 j k2 a b) e = (evo Φ G a e).bind fun x => (immO x.1).bind fun p => (evo Φ G b x.2).bind fun y => (immO y.1).bind fun q => (getE y.2 i).bind fun _ => (evo Φ G k1 y.2).bind fun z => (immO z.1).bind fun r => (stoSem i r p z.2).bind fun e2 => (getE e2 j).bind fun _ => (evo Φ G k2 e2).bind fun w => (immO w.1).bind fun t => (stoSem j t q w.2).bind fun e3 => some (.nx, e3) := by simp only [ex]
@[simp] theorem sx_imL (xs : List P) : isImm (.lst xs) = false := rfl
@[simp] theorem sx_imI (p : P) : isImm (.imm p) = true := rfl
@[simp] theorem sx_imD (t : Bool) (kvs : List (P × P)) : isImm (.dic t kvs) = false := rfl
@[simp] theorem sx_toImm (p : P) : toImm (.imm p) = some p := rfl
@[simp] theorem sx_ex (a : E) : ex Φ G (.ex a) e = (evo Φ G a e).bind fun x => some (.nx, x.2) := by simp only [ex]
@[simp] theorem sx_ret (a : E) : ex Φ G (.ret a) e = (evo Φ G a e).bind fun x => retD x.1 x.2 := by simp only [ex]
@[simp] theorem sx_ret0 : ex Φ G .ret0 e = some (.rt (.imm .non), e) := by simp only [ex]
@[simp] theorem sx_ifs (t : E) (a b : List T) : ex Φ G (.ifs t a b) e = (evo Φ G t e).bind fun x => (resv x.2 x.1).bind fun d => (truth d).bind fun k => if k then exs Φ G a x.2 else exs Φ G b x.2 := by simp only [ex]
def stepFf (Φ : CallS) (G : List P) (t : Pat) (body : List T) (p : P) (e2 : En) : Option (Fl × En) := (bindP t p e2).bind fun e3 => exs Φ G body e3
@[simp] theorem sx_for (t : Pat) (k : IK) (as : List E) (body : List T) : ex Φ G (.fors t k as body) e = (evos Φ G as e).bind fun r => (resvs r.2 r.1).bind fun ds => (items k ds).bind fun ps =>
      if freeOf r.1 (asgP t ++ asgTs body) then forL (stepFf Φ G t body) (fun e' => lockOk r.1 r.2 e') ps r.2 else none := by simp only [ex]; rfl
def stepWw (Φ : CallS) (G : List P) (t : E) (body : List T) (e : En) : Option (Bool × Fl × En) := (evo Φ G t e).bind fun x => (resv x.2 x.1).bind fun d => (truth d).bind fun k => if k then (exs Φ G body x.2).bind fun r => some (true, r.1, r.2) else some (false, .nx, x.2)
@[simp] theorem sx_whl (n : Nat) (t : E) (body : List T) : ex Φ G (.whl n t body) e = whlL (stepWw Φ G t body) n e := by simp only [ex]; rfl
@[simp] theorem sx_brk : ex Φ G .brk e = some (.bk, e) := by simp only [ex]
@[simp] theorem sx_cont : ex Φ G .cont e = some (.ct, e) := by simp only [ex]
@[simp] theorem sx_pass : ex Φ G .pass e = some (.nx, e) := by simp only [ex]
@[simp] theorem sx_snil : exs Φ G [] e = some (.nx, e) := by simp only [exs]
@[simp] theorem sx_scons (a : T) (as : List T) : exs Φ G (a :: as) e = (ex Φ G a e).bind fun r => match r.1 with
      | .nx => exs Φ G as r.2
      | f => some (f, r.2) := by simp only [exs] <;> rfl
end
/-! the pieces -/
@[simp] theorem sx_getE0 (x : Option D) (e : En) : getE (x :: e) 0 = x := by simp [getE]
@[simp] theorem sx_getES (x : Option D) (e : En) (i : Nat) : getE (x :: e) (i + 1) = getE e i := by simp [getE]
@[simp] theorem sx_nmI {i : Nat} {e : En} {p : P} (h : getE e i = some (.imm p)) : nmSem i e = some (.tmp (.imm p)) := by unfold nmSem; rw [h]
@[simp] theorem sx_nmL {i : Nat} {e : En} {p : List P} (h : getE e i = some (.lst p)) : nmSem i e = some (.slot i) := by unfold nmSem; rw [h]
@[simp] theorem sx_nmD {i : Nat} {e : En} {t : Bool} {kvs : List (P × P)} (h : getE e i = some (.dic t kvs)) : nmSem i e = some (.slot i) := by unfold nmSem; rw [h]
@[simp] theorem sx_mvD {i : Nat} {e : En} {t : Bool} {kvs : List (P × P)} (h : getE e i = some (.dic t kvs)) : mvSem i e = some (.tmp (.dic t kvs), e.set i none) := by unfold mvSem; rw [h]
@[simp] theorem sx_mvI {i : Nat} {e : En} {p : P} (h : getE e i = some (.imm p)) : mvSem i e = some (.tmp (.imm p), e) := by unfold mvSem; rw [h]
@[simp] theorem sx_mvL {i : Nat} {e : En} {p : List P} (h : getE e i = some (.lst p)) : mvSem i e = some (.tmp (.lst p), e.set i none) := by unfold mvSem; rw [h]
@[simp] theorem sx_rtmp (e : En) (d : D) : resv e (.tmp d) = some d := rfl
@[simp] theorem sx_rslot (e : En) (i : Nat) : resv e (.slot i) = getE e i := rfl
@[simp] theorem sx_rs0 (e : En) : resvs e [] = some [] := rfl
@[simp] theorem sx_rs1 (e : En) (o : Opd) (os : List Opd) : resvs e (o :: os) = (resv e o).bind fun d => (resvs e os).bind fun ds => some (d :: ds) := rfl
@[simp] theorem sx_im0 : immOs [] = some [] := rfl
@[simp] theorem sx_im1 (o : Opd) (os : List Opd) : immOs (o :: os) = (immO o).bind fun p => (immOs os).bind fun ps => some (p :: ps) := rfl
@[simp] theorem sx_imO (p : P) : immO (.tmp (.imm p)) = some p := rfl
@[simp] theorem sx_intO (i : Int) : intO (.tmp (.imm (.int i))) = some i := rfl
@[simp] theorem sx_fz1 (p : P) (e : En) : frzSem (.tmp (.imm p)) e = some (p, e) := rfl
@[simp] theorem sx_fz2 (p : List P) (e : En) : frzSem (.tmp (.lst p)) e = some (.lst p, e) := rfl
@[simp] theorem sx_fz3 {i : Nat} {e : En} {p : P} (h : getE e i = some (.imm p)) : frzSem (.slot i) e = some (p, e) := by unfold frzSem; simp only [h]
@[simp] theorem sx_fz4 {i : Nat} {e : En} {p : List P} (h : getE e i = some (.lst p)) : frzSem (.slot i) e = some (.lst p, e.set i (some (.imm (.lst p)))) := by unfold frzSem; simp only [h]
@[simp] theorem sx_as1 (t : Pat) (p : P) (e : En) : asgD t (.tmp (.imm p)) e = bindP t p e := rfl
@[simp] theorem sx_as2 (i : Nat) (p : List P) (e : En) : asgD (.nm i) (.tmp (.lst p)) e = some (e.set i (some (.lst p))) := rfl
@[simp] theorem sx_as3 (i : Nat) (t : Bool) (kvs : List (P × P)) (e : En) : asgD (.nm i) (.tmp (.dic t kvs)) e = some (e.set i (some (.dic t kvs))) := rfl
@[simp] theorem sx_bp1 (i : Nat) (p : P) (e : En) : bindP (.nm i) p e = some (e.set i (some (.imm p))) := by simp only [bindP]
@[simp] theorem sx_bp2 (ts : List Pat) (ps : List P) (e : En) : bindP (.tp ts) (.tup ps) e = bindPs ts ps e := by simp only [bindP]
@[simp] theorem sx_bp3 (ts : List Pat) (ps : List P) (e : En) : bindP (.tp ts) (.lst ps) e = bindPs ts ps e := by simp only [bindP]
@[simp] theorem sx_bps0 (e : En) : bindPs [] [] e = some e := by simp only [bindPs]
@[simp] theorem sx_bps1 (t : Pat) (ts : List Pat) (p : P) (ps : List P) (e : En) : bindPs (t :: ts) (p :: ps) e = (bindP t p e).bind fun e' => bindPs ts ps e' := by simp only [bindPs]
@[simp] theorem sx_rd1 (d : D) (e : En) : retD (.tmp d) e = some (.rt d, e) := rfl
@[simp] theorem sx_rd2 (i : Nat) (e : En) : retD (.slot i) e = (getE e i).bind fun d => some (.rt d, e.set i none) := rfl
@[simp] theorem sx_sa0 (e : En) : setAll [] [] e = some e := rfl
@[simp] theorem sx_sa1 (i : Nat) (is : List Nat) (d : D) (os : List Opd) (e : En) : setAll (i :: is) (.tmp d :: os) e = setAll is os (e.set i (some d)) := rfl
@[simp] theorem sx_bk0 (e : En) : back [] [] [] e = some e := rfl
@[simp] theorem sx_bk1 (d d' r : D) (os : List Opd) (ds rs : List D) (e : En) : back (.tmp d' :: os) (d :: ds) (r :: rs) e = back os ds rs e := rfl
@[simp] theorem sx_bk2 (i : Nat) (p : P) (r : D) (os : List Opd) (ds rs : List D) (e : En) : back (.slot i :: os) (.imm p :: ds) (r :: rs) e = back os ds rs e := rfl
@[simp] theorem sx_bk3 (i : Nat) (p : List P) (r : D) (os : List Opd) (ds rs : List D) (e : En) : back (.slot i :: os) (.lst p :: ds) (r :: rs) e = if noSlot os i then (back os ds rs (e.set i none)).bind fun e' => some (e'.set i (some r)) else none := rfl
@[simp] theorem sx_bk4 (i : Nat) (t : Bool) (p : List (P × P)) (r : D) (os : List Opd) (ds rs : List D) (e : En) : back (.slot i :: os) (.dic t p :: ds) (r :: rs) e = if noSlot os i then (back os ds rs (e.set i none)).bind fun e' => some (e'.set i (some r)) else none := rfl
@[simp] theorem sx_ns0 (i : Nat) : noSlot [] i = true := rfl
@[simp] theorem sx_ns1 (i : Nat) (d : D) (os : List Opd) : noSlot (.tmp d :: os) i = noSlot os i := by simp [noSlot]
@[simp] theorem sx_ns2 (i j : Nat) (os : List Opd) : noSlot (.slot j :: os) i = ((j != i) && noSlot os i) := by simp [noSlot]
@[simp] theorem sx_fr0 (l : List Nat) : freeOf [] l = true := rfl
@[simp] theorem sx_fr1 (l : List Nat) (d : D) (os : List Opd) : freeOf (.tmp d :: os) l = freeOf os l := by simp [freeOf]
@[simp] theorem sx_fr2 (l : List Nat) (j : Nat) (os : List Opd) : freeOf (.slot j :: os) l = (!l.contains j && freeOf os l) := by simp [freeOf]
@[simp] theorem sx_lk0 (e e' : En) : lockOk [] e e' = true := rfl
@[simp] theorem sx_lk1 (e e' : En) (d : D) (os : List Opd) : lockOk (.tmp d :: os) e e' = lockOk os e e' := by simp [lockOk]
@[simp] theorem sx_lk2 (e e' : En) (j : Nat) (os : List Opd) : lockOk (.slot j :: os) e e' = (decide (getE e' j = getE e j) && lockOk os e e') := by simp [lockOk]
@[simp] theorem sx_agP1 (i : Nat) : asgP (.nm i) = [i] := by simp only [asgP]
@[simp] theorem sx_agP2 (ts : List Pat) : asgP (.tp ts) = asgPs ts := by simp only [asgP]
@[simp] theorem sx_agPs0 : asgPs [] = [] := by simp only [asgPs]
@[simp] theorem sx_agPs1 (t : Pat) (ts : List Pat) : asgPs (t :: ts) = asgP t ++ asgPs ts := by simp only [asgPs]
@[simp] theorem sx_mutDo {m : MOp} {i : Nat} {os : List Opd} {e : En} {xs : List P} (h : getE e i = some (.lst xs)) : mutDo m i os e = (resvs e os).bind fun ds => if noSlot os i then (mutSem m xs ds).bind fun r => some (r.2, e.set i (some (.lst r.1))) else none := by
  unfold mutDo
  simp only [h]
@[simp] theorem sx_sto' {i : Nat} {j : Int} {p : P} {e : En} {xs : List P} (h : getE e i = some (.lst xs)) : stoSem i (.int j) p e = (ixP xs.length j).bind fun n => some (e.set i (some (.lst (xs.set n p)))) := by
  unfold stoSem
  simp only [h]
theorem sx_stoD {i : Nat} {q p : P} {e : En} {t : Bool} {kvs : List (P × P)} (h : getE e i = some (.dic t kvs)) : stoSem i q p e = if keyOk t q = true ∧ kvs.length < line then some (e.set i (some (.dic t (putKV kvs q p)))) else none := by
  unfold stoSem
  rw [h]
@[simp] theorem sx_wipe0 (e : En) : wipeE e [] = e := rfl
@[simp] theorem sx_wipe1 (e : En) (i : Nat) (is : List Nat) : wipeE e (i :: is) = (wipeE e is).set i none := rfl
@[simp] theorem sx_put0 (e e0 : En) : putBack e e0 [] = e := rfl
@[simp] theorem sx_put1 (e e0 : En) (i : Nat) (is : List Nat) : putBack e e0 (i :: is) = putBack (e.set i (keepImm (getE e0 i))) e0 is := rfl
@[simp] theorem sx_keep1 (p : P) : keepImm (some (.imm p)) = some (.imm p) := rfl
@[simp] theorem sx_keep2 : keepImm none = none := rfl
@[simp] theorem sx_keep3 (p : List P) : keepImm (some (.lst p)) = none := rfl
@[simp] theorem sx_keep4 (t : Bool) (p : List (P × P)) : keepImm (some (.dic t p)) = none := rfl
/-! ### weakest preconditions -/
def wp {α : Type} (x : Option α) (Q : α → Prop) : Prop := ∃ a, x = some a ∧ Q a
section
variable {α β : Type} {Q : α → Prop}
@[simp] theorem wp_some (a : α) : wp (some a) Q ↔ Q a := ⟨fun ⟨_, e, q⟩ => by cases e; exact q, fun q => ⟨a, rfl, q⟩⟩
@[simp] theorem wp_none : wp (none : Option α) Q ↔ False := ⟨fun ⟨_, e, _⟩ => (nomatch e), False.elim⟩
@[simp] theorem wp_bind (x : Option β) (f : β → Option α) : wp (x.bind f) Q ↔ wp x fun a => wp (f a) Q := by
  cases x with
  | none => simp [wp]
  | some b => simp
theorem wp_mono {x : Option α} {Q' : α → Prop} (h : wp x Q) (hq : ∀ a, Q a → Q' a) : wp x Q' := let ⟨a, e, q⟩ := h; ⟨a, e, hq a q⟩
theorem wp_eq {x : Option α} {a : α} (h : x = some a) (q : Q a) : wp x Q := ⟨a, h, q⟩
end
theorem wp_for {step : P → En → Option (Fl × En)} {ok : En → Bool} {Q : Fl × En → Prop} (I : Nat → En → Prop) {ps : List P} {e : En} (h0 : I 0 e)
    (hs : ∀ i p e, ps[i]? = some p → I i e → wp (step p e) fun r => match r.1 with
      | .nx => ok r.2 = true ∧ I (i + 1) r.2
      | .ct => ok r.2 = true ∧ I (i + 1) r.2
      | .bk => Q (.nx, r.2)
      | .rt d => Q (.rt d, r.2))
    (hd : ∀ e, I ps.length e → Q (.nx, e)) : wp (forL step ok ps e) Q := by
  have key : ∀ (qs : List P) (i : Nat) (e : En), ps.drop i = qs → I i e → i ≤ ps.length → wp (forL step ok qs e) Q := by
    intro qs
    induction qs with
    | nil =>
      intro i e hq hi hl
      have : i = ps.length := by
        have := congrArg List.length hq
        rw [List.length_drop, List.length_nil] at this
        omega
      subst this
      unfold forL
      exact (wp_some _).mpr (hd e hi)
    | cons p qs ih =>
      intro i e hq hi hl
      have hp : ps[i]? = some p := by
        have := congrArg (fun l : List P => l[0]?) hq
        simpa using this
      have hlt : i < ps.length := (List.getElem?_eq_some_iff.mp hp).1
      have hq' : ps.drop (i + 1) = qs := by
        have := congrArg List.tail hq
        simpa using this
      unfold forL
      rw [wp_bind]
      refine wp_mono (hs i p e hp hi) fun r hr => ?_
      obtain ⟨fl, e'⟩ := r
      cases fl with
      | nx => simp only at hr ⊢; rw [if_pos hr.1]; exact ih (i + 1) e' hq' hr.2 hlt
      | ct => simp only at hr ⊢; rw [if_pos hr.1]; exact ih (i + 1) e' hq' hr.2 hlt
      | bk => exact (wp_some _).mpr hr
      | rt d => exact (wp_some _).mpr hr
  exact key ps 0 e (List.drop_zero ..) h0 (Nat.zero_le _)
theorem wp_comp {step : P → List P → En → Option (List P × En)} {Q : List P × En → Prop} (I : Nat → List P → En → Prop) {ps : List P} {e : En} (h0 : I 0 [] e)
    (hs : ∀ i p acc e, ps[i]? = some p → I i acc e → wp (step p acc e) fun r => I (i + 1) r.1 r.2) (hd : ∀ acc e, I ps.length acc e → Q (acc, e)) : wp (compL step ps [] e) Q := by
  have key : ∀ (qs : List P) (i : Nat) (acc : List P) (e : En), ps.drop i = qs → I i acc e → i ≤ ps.length → wp (compL step qs acc e) Q := by
    intro qs
    induction qs with
    | nil =>
      intro i acc e hq hi hl
      have : i = ps.length := by
        have := congrArg List.length hq
        rw [List.length_drop, List.length_nil] at this
        omega
      subst this
      unfold compL
      exact (wp_some _).mpr (hd acc e hi)
    | cons p qs ih =>
      intro i acc e hq hi hl
      have hp : ps[i]? = some p := by
        have := congrArg (fun l : List P => l[0]?) hq
        simpa using this
      have hlt : i < ps.length := (List.getElem?_eq_some_iff.mp hp).1
      have hq' : ps.drop (i + 1) = qs := by
        have := congrArg List.tail hq
        simpa using this
      unfold compL
      rw [wp_bind]
      exact wp_mono (hs i p acc e hp hi) fun r hr => ih (i + 1) r.1 r.2 hq' hr hlt
  exact key ps 0 [] e (List.drop_zero ..) h0 (Nat.zero_le _)
theorem wp_whl {step : En → Option (Bool × Fl × En)} {Q : Fl × En → Prop} (I : Nat → En → Prop) {n : Nat} {e : En} {m : Nat} (h0 : I m e) (hm : m < n)
    (hs : ∀ m e, I m e → wp (step e) fun r => if r.1 = true then (match r.2.1 with
      | .nx => ∃ m', m' < m ∧ I m' r.2.2
      | .ct => ∃ m', m' < m ∧ I m' r.2.2
      | .bk => Q (.nx, r.2.2)
      | .rt d => Q (.rt d, r.2.2)) else Q (.nx, r.2.2)) : wp (whlL step n e) Q := by
  induction n generalizing m e with
  | zero => omega
  | succ n ih =>
    unfold whlL
    rw [wp_bind]
    refine wp_mono (hs m e h0) fun r hr => ?_
    obtain ⟨b, fl, e'⟩ := r
    cases b with
    | false => simpa using hr
    | true =>
      simp only [if_true] at hr ⊢
      cases fl with
      | nx => obtain ⟨m', h1, h2⟩ := hr; exact ih h2 (by omega)
      | ct => obtain ⟨m', h1, h2⟩ := hr; exact ih h2 (by omega)
      | bk => exact (wp_some _).mpr hr
      | rt d => exact (wp_some _).mpr hr
/-- a call, by its body -/
theorem call_wp {prog : List Fn} {G : List P} {k j : Nat} {ds : List D} {fn : Fn} {Q : D × List D → Prop} (h1 : prog[j]? = some fn) (h2 : ds.length = fn.np)
    (h : wp (exs (callF prog G k) G fn.body (ds.map some ++ List.replicate (fn.n - fn.np) none)) fun r => match r.1 with
      | .nx => wp (outs (asgTs fn.body) r.2 ds 0) fun rs => Q (.imm .non, rs)
      | .rt d => wp (outs (asgTs fn.body) r.2 ds 0) fun rs => Q (d, rs)
      | _ => False) : wp (callF prog G (k + 1) j ds) Q := by
  unfold callF
  rw [h1]
  simp only [Option.bind_some]
  rw [if_pos h2, wp_bind]
  refine wp_mono h fun r hr => ?_
  obtain ⟨fl, e'⟩ := r
  cases fl with
  | nx => rw [wp_bind]; exact wp_mono hr fun rs q => (wp_some _).mpr q
  | rt d => rw [wp_bind]; exact wp_mono hr fun rs q => (wp_some _).mpr q
  | bk => exact hr.elim
  | ct => exact hr.elim
@[simp] theorem sx_out0 (asg : List Nat) (e : En) (i : Nat) : outs asg e [] i = some [] := by simp only [outs]
@[simp] theorem sx_out1 (asg : List Nat) (e : En) (p : P) (ds : List D) (i : Nat) : outs asg e (.imm p :: ds) i = (outs asg e ds (i + 1)).bind fun rs => some (.imm p :: rs) := by simp only [outs, Option.bind_some]
@[simp] theorem sx_out3 (asg : List Nat) (e : En) (t : Bool) (p : List (P × P)) (ds : List D) (i : Nat) : outs asg e (.dic t p :: ds) i = (if asg.contains i then none else getE e i).bind fun r => (outs asg e ds (i + 1)).bind fun rs => some (r :: rs) := by simp only [outs]
@[simp] theorem sx_out2 (asg : List Nat) (e : En) (p : List P) (ds : List D) (i : Nat) : outs asg e (.lst p :: ds) i = (if asg.contains i then none else getE e i).bind fun r => (outs asg e ds (i + 1)).bind fun rs => some (r :: rs) := by simp only [outs]
end Sw
/-! Sy: the operators, by their kinds. -/
namespace Sw
section
variable {e : En} {a b : Int} {s t : List Nat} {ps qs : List P} {p q : P} {x : D}
theorem le_lineN {n : Nat} (h : n ≤ 100000) : n ≤ line := by show n ≤ 16777216; omega
theorem lt_lineN {n : Nat} (h : n ≤ 100000) : n < line := by show n < 16777216; omega
@[simp] theorem so_add : opSem .add [.imm (.int a), .imm (.int b)] = some (.imm (.int (a + b))) := rfl
theorem so_adds (h : s.length + t.length ≤ line) : opSem .add [.imm (.str s), .imm (.str t)] = some (.imm (.str (s ++ t))) := by simp only [opSem, opAdd, h, if_true]
theorem so_addt (h : ps.length + qs.length ≤ line) : opSem .add [.imm (.tup ps), .imm (.tup qs)] = some (.imm (.tup (ps ++ qs))) := by simp only [opSem, opAdd, h, if_true]
theorem so_addl (h : ps.length + qs.length ≤ line) : opSem .add [.lst ps, .lst qs] = some (.lst (ps ++ qs)) := by simp only [opSem, opAdd, h, if_true]
@[simp] theorem so_sub : opSem .sub [.imm (.int a), .imm (.int b)] = some (.imm (.int (a - b))) := rfl
theorem so_mul (h : mulOk a b = true) : opSem .mul [.imm (.int a), .imm (.int b)] = some (.imm (.int (a * b))) := by simp only [opSem, opMul, h, if_true]; rfl
@[simp] theorem so_neg : opSem .neg [.imm (.int a)] = some (.imm (.int (-a))) := rfl
theorem so_fdiv (h : b ≠ 0 ∧ b.natAbs < 1073741824) : opSem .fdiv [.imm (.int a), .imm (.int b)] = some (.imm (.int (a.fdiv b))) := by simp only [opSem, int2]; rw [if_pos h]; rfl
theorem so_mod (h : b ≠ 0) : opSem .mod [.imm (.int a), .imm (.int b)] = some (.imm (.int (a.fmod b))) := by simp only [opSem, int2]; rw [if_pos h]; rfl
@[simp] theorem so_lt : opSem .lt [.imm (.int a), .imm (.int b)] = some (.imm (.bl (decide (a < b)))) := rfl
@[simp] theorem so_le : opSem .le [.imm (.int a), .imm (.int b)] = some (.imm (.bl (decide (a ≤ b)))) := rfl
@[simp] theorem so_gt : opSem .gt [.imm (.int a), .imm (.int b)] = some (.imm (.bl (decide (b < a)))) := rfl
@[simp] theorem so_ge : opSem .ge [.imm (.int a), .imm (.int b)] = some (.imm (.bl (decide (b ≤ a)))) := rfl
@[simp] theorem so_isN : opSem .isN [x] = some (.imm (.bl (decide (x = .imm .non)))) := rfl
@[simp] theorem so_notN : opSem .notN [x] = some (.imm (.bl (!decide (x = .imm .non)))) := rfl
theorem eqv_int : peq (.int a) (.int b) = decide (a = b) := by simp only [peq]; by_cases h : a = b <;> simp [h]
theorem eqv_str : peq (.str s) (.str t) = decide (s = t) := by simp only [peq]; by_cases h : s = t <;> simp [h]
theorem cmp_int : cmpEq (.imm (.int a)) (.imm (.int b)) = some (decide (a = b)) := by
  unfold cmpEq
  rw [if_pos (by simp [rd, depth, isDic]), rd, rd, eqv_int]
theorem cmp_str : cmpEq (.imm (.str s)) (.imm (.str t)) = some (decide (s = t)) := by
  unfold cmpEq
  rw [if_pos (by simp [rd, depth, isDic]), rd, rd, eqv_str]
@[simp] theorem so_eqI : opSem .eq [.imm (.int a), .imm (.int b)] = some (.imm (.bl (decide (a = b)))) := by simp only [opSem, cmp_int]; rfl
@[simp] theorem so_neI : opSem .ne [.imm (.int a), .imm (.int b)] = some (.imm (.bl (!decide (a = b)))) := by simp only [opSem, cmp_int]; rfl
@[simp] theorem so_eqS : opSem .eq [.imm (.str s), .imm (.str t)] = some (.imm (.bl (decide (s = t)))) := by simp only [opSem, cmp_str]; rfl
@[simp] theorem so_neS : opSem .ne [.imm (.str s), .imm (.str t)] = some (.imm (.bl (!decide (s = t)))) := by simp only [opSem, cmp_str]; rfl
theorem so_inS : opSem .isin [.imm (.str s), .imm (.str t)] = some (.imm (.bl (findAt s t 0).isSome)) := rfl
theorem so_ninS : opSem .notin [.imm (.str s), .imm (.str t)] = some (.imm (.bl (!(findAt s t 0).isSome))) := rfl
theorem so_idxS (h : s.length ≤ line) : opSem .idx [.imm (.str s), .imm (.int a)] = (atP s a).bind fun c => some (.imm (.str [c])) := by simp only [opSem, opIdx, h, if_true]
@[simp] theorem so_idxT : opSem .idx [.imm (.tup ps), .imm (.int a)] = (atP ps a).bind fun c => some (.imm c) := rfl
@[simp] theorem so_idxF : opSem .idx [.imm (.lst ps), .imm (.int a)] = (atP ps a).bind fun c => some (.imm c) := rfl
@[simp] theorem so_idxL : opSem .idx [.lst ps, .imm (.int a)] = (atP ps a).bind fun c => some (.imm c) := rfl
theorem so_lenS (h : s.length ≤ line) : opSem .len [.imm (.str s)] = some (.imm (.int s.length)) := by simp only [opSem, opLen, h, if_true]; rfl
@[simp] theorem so_lenT : opSem .len [.imm (.tup ps)] = some (.imm (.int ps.length)) := rfl
@[simp] theorem so_lenF : opSem .len [.imm (.lst ps)] = some (.imm (.int ps.length)) := rfl
@[simp] theorem so_lenL : opSem .len [.lst ps] = some (.imm (.int ps.length)) := rfl
@[simp] theorem so_isi (ts : List Ty) : opSem (.isi ts) [.imm p] = some (.imm (.bl (ts.any (isTy p)))) := rfl
@[simp] theorem so_isiL (ts : List Ty) : opSem (.isi ts) [.lst ps] = some (.imm (.bl (ts.any (isTy (.lst ps))))) := rfl
@[simp] theorem so_min : opSem .min2 [.imm (.int a), .imm (.int b)] = some (.imm (.int (if b < a then b else a))) := rfl
@[simp] theorem so_max : opSem .max2 [.imm (.int a), .imm (.int b)] = some (.imm (.int (if b > a then b else a))) := rfl
@[simp] theorem so_int : opSem .int [.imm (.int a)] = some (.imm (.int a)) := rfl
@[simp] theorem so_intB (c : Bool) : opSem .int [.imm (.bl c)] = some (.imm (.int (bI c))) := rfl
theorem so_tupL (h : ps.length ≤ line) : opSem .tuple [.lst ps] = some (.imm (.tup ps)) := by simp only [opSem, opTuple, elems, Option.bind_some, h, if_true]
theorem so_tupT (h : ps.length ≤ line) : opSem .tuple [.imm (.tup ps)] = some (.imm (.tup ps)) := by simp only [opSem, opTuple, elems, Option.bind_some, h, if_true]
theorem so_tupF (h : ps.length ≤ line) : opSem .tuple [.imm (.lst ps)] = some (.imm (.tup ps)) := by simp only [opSem, opTuple, elems, Option.bind_some, h, if_true]
theorem so_lisT (h : ps.length ≤ line) : opSem .list [.imm (.tup ps)] = some (.lst ps) := by simp only [opSem, opList, elems, Option.bind_some, h, if_true]
theorem so_lisS (h : s.length ≤ line) : opSem .list [.imm (.str s)] = some (.lst (s.map fun c => .str [c])) := by simp only [opSem, opList, elems, Option.bind_some, List.length_map, h, if_true]
@[simp] theorem so_revT : opSem .rev [.imm (.tup ps)] = some (.imm (.tup ps.reverse)) := rfl
theorem so_slcS {l h : Option Int} (c : s.length ≤ line) : slcSem (.imm (.str s)) l h = some (.imm (.str (cutP s l h))) := by simp only [slcSem, c, if_true]
@[simp] theorem so_slcT {l h : Option Int} : slcSem (.imm (.tup ps)) l h = some (.imm (.tup (cutP ps l h))) := rfl
@[simp] theorem so_slcF {l h : Option Int} : slcSem (.imm (.lst ps)) l h = some (.lst (cutP ps l h)) := rfl
@[simp] theorem so_slcL {l h : Option Int} : slcSem (.lst ps) l h = some (.lst (cutP ps l h)) := rfl
/-! truth -/
@[simp] theorem st_non : truth (.imm .non) = some false := rfl
@[simp] theorem st_bl (c : Bool) : truth (.imm (.bl c)) = some c := rfl
@[simp] theorem st_int : truth (.imm (.int a)) = some (a != 0) := rfl
theorem st_str (h : s.length ≤ line) : truth (.imm (.str s)) = some (!s.isEmpty) := by simp only [truth, h, if_true]
@[simp] theorem st_tup : truth (.imm (.tup ps)) = some (!ps.isEmpty) := rfl
@[simp] theorem st_lst : truth (.imm (.lst ps)) = some (!ps.isEmpty) := rfl
@[simp] theorem st_own : truth (.lst ps) = some (!ps.isEmpty) := rfl
/-! walks -/
theorem it_rng1 {n : Nat} (h : n ≤ 1000000) : items .rng1 [.imm (.int n)] = some ((List.range n).map fun k : Nat => P.int (k : Int)) := by
  have : small62 (n : Int) = true := by
    unfold small62
    exact decide_eq_true (by have e : (2:Int)^62 = 4611686018427387904 := by decide
                             omega)
  simp only [items, this, if_true, Int.toNat_natCast]
theorem it_rng2 {i j : Int} (h : -1000000 ≤ i ∧ i ≤ 1000000 ∧ -1000000 ≤ j ∧ j ≤ 1000000) : items .rng2 [.imm (.int i), .imm (.int j)] = some ((List.range (j - i).toNat).map fun k : Nat => P.int (i + (k : Int))) := by
  have e : (2:Int)^62 = 4611686018427387904 := by decide
  have h1 : small62 i = true := by unfold small62; exact decide_eq_true (by omega)
  have h2 : small62 j = true := by unfold small62; exact decide_eq_true (by omega)
  simp only [items, h1, h2, Bool.and_self, if_true]
@[simp] theorem it_seqL : items .seq [.lst ps] = some ps := rfl
@[simp] theorem it_seqF : items .seq [.imm (.lst ps)] = some ps := rfl
@[simp] theorem it_seqT : items .seq [.imm (.tup ps)] = some ps := rfl
@[simp] theorem it_seqS : items .seq [.imm (.str s)] = some (s.map fun c => .str [c]) := rfl
/-! changes -/
theorem mu_app (h : ps.length < line) : mutSem .append ps [.imm p] = some (ps ++ [p], .non) := by simp only [mutSem, h, if_true]
@[simp] theorem au_add : augSem .add (.imm (.int a)) (.imm (.int b)) = some (.imm (.int (a + b))) := rfl
@[simp] theorem au_sub : augSem .sub (.imm (.int a)) (.imm (.int b)) = some (.imm (.int (a - b))) := rfl
theorem au_str (h : s.length + t.length ≤ line) : augSem .add (.imm (.str s)) (.imm (.str t)) = some (.imm (.str (s ++ t))) := by simp only [augSem, h, if_true]
@[simp] theorem li_own : listOf (.lst ps) = some ps := rfl
@[simp] theorem li_imm : listOf (.imm (.lst ps)) = some ps := rfl
@[simp] theorem rd_imm : rd (.imm p) = p := rfl
@[simp] theorem rd_lst : rd (.lst ps) = .lst ps := rfl
end
/-! places and cuts -/
theorem ix_nat {n i : Nat} (h : i < n) : ixP n (i : Int) = some i := by
  unfold ixP
  rw [if_pos (by omega), if_pos (by omega)] <;> rfl
theorem at_nat {α : Type} {xs : List α} {i : Nat} (h : i < xs.length) : atP xs (i : Int) = xs[i]? := by
  unfold atP
  rw [ix_nat h, Option.bind_some]
theorem sIx_nat {n d i : Nat} : sIxP n d (some (i : Int)) = min i n := by
  unfold sIxP
  simp only
  rw [if_neg (by omega), Int.toNat_natCast]
theorem cut_nn {α : Type} (xs : List α) (i j : Nat) : cutP xs (some (i : Int)) (some (j : Int)) = (xs.drop i).take (j - i) := by
  unfold cutP
  rw [sIx_nat, sIx_nat]
  by_cases h : i ≤ xs.length
  · rw [Nat.min_eq_left h]
    by_cases h2 : j ≤ xs.length
    · rw [Nat.min_eq_left h2]
    · rw [Nat.min_eq_right (Nat.le_of_lt (Nat.lt_of_not_le h2)), List.take_of_length_le (by rw [List.length_drop]; exact Nat.le_refl _), List.take_of_length_le (by rw [List.length_drop]; omega)]
  · have e : min i xs.length = xs.length := Nat.min_eq_right (Nat.le_of_lt (Nat.lt_of_not_le h))
    rw [e, List.drop_of_length_le (Nat.le_refl _), List.drop_of_length_le (Nat.le_of_lt (Nat.lt_of_not_le h))]
    simp
theorem cut_n0 {α : Type} (xs : List α) (i : Nat) : cutP xs (some (i : Int)) none = xs.drop i := by
  unfold cutP
  rw [sIx_nat]
  show (xs.drop (min i xs.length)).take (xs.length - min i xs.length) = _
  by_cases h : i ≤ xs.length
  · rw [Nat.min_eq_left h, List.take_of_length_le (by rw [List.length_drop]; exact Nat.le_refl _)]
  · have e : min i xs.length = xs.length := Nat.min_eq_right (Nat.le_of_lt (Nat.lt_of_not_le h))
    rw [e, List.drop_of_length_le (Nat.le_refl _), List.drop_of_length_le (Nat.le_of_lt (Nat.lt_of_not_le h))]
    simp
theorem cut_0n {α : Type} (xs : List α) (j : Nat) : cutP xs none (some (j : Int)) = xs.take j := by
  unfold cutP
  rw [sIx_nat]
  show (xs.drop 0).take (min j xs.length - 0) = _
  rw [List.drop_zero, Nat.sub_zero]
  by_cases h : j ≤ xs.length
  · rw [Nat.min_eq_left h]
  · rw [Nat.min_eq_right (by omega), List.take_of_length_le (Nat.le_refl _), List.take_of_length_le (by omega)]
theorem wp_seq {Φ : CallS} {G : List P} {a : T} {as : List T} {e : En} {Q : Fl × En → Prop} (M : Fl × En → Prop) (h1 : ∀ R : Fl × En → Prop, (∀ r, M r → R r) → wp (ex Φ G a e) R) (h2 : ∀ r, M r → match r.1 with
    | .nx => wp (exs Φ G as r.2) Q
    | f => Q (f, r.2)) : wp (exs Φ G (a :: as) e) Q := by
  rw [sx_scons, wp_bind]
  refine h1 _ fun r hr => ?_
  have := h2 r hr
  obtain ⟨fl, e'⟩ := r
  cases fl with
  | nx => exact this
  | bk => exact (wp_some _).mpr this
  | ct => exact (wp_some _).mpr this
  | rt d => exact (wp_some _).mpr this
def tst (Φ : CallS) (G : List P) (t : E) (e : En) : Option (Bool × En) := (evo Φ G t e).bind fun x => (resv x.2 x.1).bind fun d => (truth d).bind fun k => some (k, x.2)
theorem wp_stepT {Φ : CallS} {G : List P} {t : E} {body : List T} {e e' : En} {Q : Bool × Fl × En → Prop} (h : tst Φ G t e = some (true, e')) (hb : wp (exs Φ G body e') fun r => Q (true, r.1, r.2)) : wp (stepWw Φ G t body e) Q := by
  have e1 : stepWw Φ G t body e = (tst Φ G t e).bind fun z => if z.1 then (exs Φ G body z.2).bind fun r => some (true, r.1, r.2) else some (false, .nx, z.2) := by
    unfold stepWw tst
    cases evo Φ G t e with
    | none => rfl
    | some x =>
      simp only [Option.bind_some]
      cases resv x.2 x.1 with
      | none => rfl
      | some d =>
        simp only [Option.bind_some]
        cases truth d <;> rfl
  rw [e1, h]
  simpa using hb
theorem wp_all {α : Type} {x : Option α} {M : α → Prop} (h : ∀ R : α → Prop, (∀ r, M r → R r) → wp x R) : ∃ r, x = some r ∧ M r := h M fun _ m => m
theorem at_last {α : Type} {xs : List α} (h : xs ≠ []) : atP xs (-1) = xs[xs.length - 1]? := by
  have hl : 0 < xs.length := List.length_pos_iff.mpr h
  have : ixP xs.length (-1) = some (xs.length - 1) := by
    unfold ixP
    rw [if_neg (by decide), if_pos (by omega)]
    congr 1
    omega
  unfold atP
  rw [this, Option.bind_some]
theorem mul_l {a b : Int} (h : -(2 ^ 64) < a ∧ a < 2 ^ 64) : mulOk a b = true := by
  unfold mulOk
  rw [decide_eq_true h] <;> rfl
theorem mul_r {a b : Int} (h : -(2 ^ 64) < b ∧ b < 2 ^ 64) : mulOk a b = true := by
  unfold mulOk
  rw [decide_eq_true (p := -(2 ^ 64) < b ∧ b < 2 ^ 64) h, Bool.or_true]
theorem wp_is {α : Type} {x : Option α} {a : α} (h : wp x fun r => r = a) : x = some a := by
  obtain ⟨b, e, rfl⟩ := h
  exact e
theorem rng_get {n i : Nat} {p : P} (h : ((List.range n).map fun k : Nat => P.int (k : Int))[i]? = some p) : i < n ∧ p = .int i := by
  have hi : i < n := by
    have := (List.getElem?_eq_some_iff.mp h).1
    simpa using this
  refine ⟨hi, ?_⟩
  have e : ((List.range n).map fun k : Nat => P.int (k : Int))[i]? = some (.int i) := by simp [hi]
  rw [e] at h
  exact (Option.some.inj h).symm
theorem chr_get {w : List Nat} {i : Nat} {p : P} (h : (w.map fun c => P.str [c])[i]? = some p) : ∃ c, w[i]? = some c ∧ p = .str [c] := by
  rw [List.getElem?_map] at h
  cases q : w[i]? with
  | none => rw [q] at h; cases h
  | some c => rw [q] at h; cases h; exact ⟨c, rfl, rfl⟩
theorem int_get {ns : List Int} {i : Nat} {p : P} (h : (ns.map P.int)[i]? = some p) : ∃ c, ns[i]? = some c ∧ p = .int c := by
  rw [List.getElem?_map] at h
  cases q : ns[i]? with
  | none => rw [q] at h; cases h
  | some c => rw [q] at h; cases h; exact ⟨c, rfl, rfl⟩
/-! what is drawn -/
def WC (xs : List P) : Prop := ∃ (ns : List Int) (i pool t : Nat), xs = [.lst (ns.map P.int), .int i, .int pool, .int t, .int 20] ∧ i ≤ ns.length
theorem atC {a b c d e : P} : atP [a, b, c, d, e] 0 = some a ∧ atP [a, b, c, d, e] 1 = some b ∧ atP [a, b, c, d, e] 2 = some c ∧ atP [a, b, c, d, e] 3 = some d := by
  refine ⟨?_, ?_, ?_, ?_⟩
  · exact at_nat (i := 0) (by simp)
  · exact at_nat (i := 1) (by simp)
  · exact at_nat (i := 2) (by simp)
  · exact at_nat (i := 3) (by simp)
theorem ixC : ixP 5 1 = some 1 ∧ ixP 5 2 = some 2 ∧ ixP 5 3 = some 3 := ⟨ix_nat (i := 1) (by decide), ix_nat (i := 2) (by decide), ix_nat (i := 3) (by decide)⟩
theorem mulK {a : Int} : mulOk a 69621 = true ∧ mulOk a 48271 = true ∧ mulOk a 7919 = true := ⟨mul_r (by decide), mul_r (by decide), mul_r (by decide)⟩
theorem mulM {a b : Int} : mulOk (a.fmod 2147483647) b = true := mul_l (by
  have h1 := Int.fmod_nonneg_of_pos a (show (0 : Int) < 2147483647 by decide)
  have h2 := Int.fmod_lt_of_pos a (show (0 : Int) < 2147483647 by decide)
  omega)
theorem fill_end (a : Int) (t : Nat) : ∃ n : Nat, (a * a + ((t : Int) + 1) * 7919 + 11).fdiv 64 + 36028797018963968 = (n : Int) := by
  refine Int.eq_ofNat_of_zero_le ?_
  have h1 : 0 ≤ a * a := by
    rcases Int.le_total 0 a with h | h
    · exact Int.mul_nonneg h h
    · exact Int.mul_nonneg_of_nonpos_of_nonpos h h
  have h2 : 0 ≤ (a * a + ((t : Int) + 1) * 7919 + 11).fdiv 64 := Int.fdiv_nonneg (by omega) (by decide)
  omega
end Sw
/-! Sz: what the laws share, without a program. -/
namespace Sw
def isI : P → Bool
  | .int _ => true
  | _ => false
theorem cut_b (w : List Nat) (b m : Nat) : cutP w (some (b : Int)) (some ((b : Int) + (m : Int))) = (w.drop b).take m := by
  rw [show (b : Int) + (m : Int) = ((b + m : Nat) : Int) by omega, cut_nn]
  congr 1
  omega
theorem truth_bls (bs : List Bool) : (bs.map P.bl).all fitP = true ∧ (bs.map P.bl).any truthP = bs.any id ∧ (bs.map P.bl).all truthP = bs.all id := by
  refine ⟨?_, ?_, ?_⟩
  · rw [List.all_map, List.all_eq_true]; intro x _; rfl
  · rw [List.any_map]; rfl
  · rw [List.all_map]; rfl
theorem so_any (bs : List Bool) : opSem .any [.lst (bs.map P.bl)] = some (.imm (.bl (bs.any id))) := by
  obtain ⟨h1, h2, h3⟩ := truth_bls bs
  simp only [opSem, opAny, seqOf, listOf, Option.bind_some, h1, h2, if_true]
  rfl
theorem so_all (bs : List Bool) : opSem .all [.lst (bs.map P.bl)] = some (.imm (.bl (bs.all id))) := by
  obtain ⟨h1, h2, h3⟩ := truth_bls bs
  simp only [opSem, opAll, seqOf, listOf, Option.bind_some, h1, h3, if_true]
  rfl
theorem it_zipT (a b : List P) : items .zip [.imm (.tup a), .imm (.tup b)] = some ((a.zip b).map fun q => .tup [q.1, q.2]) := rfl
def nat2 (bs : List Nat) : List P := bs.map fun b : Nat => P.int (b : Int)
def incr : List Nat → Bool
  | [] => true
  | [_] => true
  | a :: b :: r => decide (a < b) && incr (b :: r)
theorem incr_tail {a : Nat} {bs : List Nat} (h : incr (a :: bs) = true) : incr bs = true := by
  cases bs with
  | nil => rfl
  | cons b r =>
    have h : (decide (a < b) && incr (b :: r)) = true := h
    exact (Bool.and_eq_true _ _ ▸ h).2
theorem incr_at : ∀ {bs : List Nat} {i a b : Nat}, incr bs = true → bs[i]? = some a → bs[i + 1]? = some b → a < b
  | [], i, a, b, _, h, _ => by simp at h
  | [x], i, a, b, _, _, h => by simp at h
  | x :: y :: r, 0, a, b, h, h1, h2 => by
    have h : (decide (x < y) && incr (y :: r)) = true := h
    simp only [Bool.and_eq_true, decide_eq_true_eq] at h
    simp at h1 h2
    omega
  | x :: y :: r, i + 1, a, b, h, h1, h2 => by
    have h : (decide (x < y) && incr (y :: r)) = true := h
    simp only [Bool.and_eq_true] at h
    exact incr_at (i := i) h.2 (by simpa using h1) (by simpa using h2)
theorem zip_incr : ∀ bs : List Nat, ((bs.zip bs.tail).map fun q => decide (q.1 < q.2)).all id = incr bs
  | [] => rfl
  | [x] => rfl
  | x :: y :: r => by
    have ih := zip_incr (y :: r)
    show (decide (x < y) && (((y :: r).zip r).map fun q => decide (q.1 < q.2)).all id) = (decide (x < y) && incr (y :: r))
    rw [← ih]
    rfl
theorem all_isI : ∀ {ps : List P}, ps.all isI = true → ∃ ns : List Int, ps = ns.map P.int
  | [], _ => ⟨[], rfl⟩
  | p :: ps, h => by
    rw [List.all_cons, Bool.and_eq_true] at h
    obtain ⟨ns, rfl⟩ := all_isI h.2
    cases p <;> first | (cases h.1; done) | exact ⟨_ :: ns, rfl⟩
theorem wp_at {α : Type} {xs : List α} {d : Nat} {Q : α → Prop} (h : d < xs.length) (q : ∀ r, r ∈ xs → Q r) : wp (atP xs (d : Int)) Q := by
  rw [at_nat h, List.getElem?_eq_getElem h]
  exact ⟨_, rfl, q _ (List.getElem_mem h)⟩
theorem cut_len {α : Type} (xs : List α) (lo hi : Option Int) : (cutP xs lo hi).length ≤ xs.length := by
  unfold cutP
  rw [List.length_take, List.length_drop]
  omega
theorem cut_mem {α : Type} {xs : List α} {lo hi : Option Int} {x : α} (h : x ∈ cutP xs lo hi) : x ∈ xs := List.mem_of_mem_drop (List.mem_of_mem_take h)
def Sm (n : Nat) : Nat → P → Prop
  | 0, v => (match v with
    | .tup _ => False
    | .lst _ => False
    | .str s => s.length ≤ n
    | _ => True)
  | d + 1, v => (match v with
    | .tup ps => ps.length ≤ n ∧ ∀ p ∈ ps, Sm n d p
    | .lst ps => ps.length ≤ n ∧ ∀ p ∈ ps, Sm n d p
    | .str s => s.length ≤ n
    | _ => True)
theorem Sm.mono {n m : Nat} (h : n ≤ m) : ∀ {d : Nat} {v : P}, Sm n d v → Sm m d v
  | 0, v, q => by cases v <;> first | exact q | exact Nat.le_trans q h
  | d + 1, v, q => by cases v <;> first | exact q | exact Nat.le_trans q h | exact ⟨Nat.le_trans q.1 h, fun p hp => Sm.mono h (q.2 p hp)⟩
theorem Sm.up {n : Nat} : ∀ {d : Nat} {v : P}, Sm n d v → Sm n (d + 1) v
  | 0, v, q => by cases v <;> first | exact q | exact q.elim
  | d + 1, v, q => by cases v <;> first | exact q | exact ⟨q.1, fun p hp => Sm.up (q.2 p hp)⟩
theorem sm_int {n d : Nat} {i : Int} : Sm n d (.int i) := by cases d <;> trivial
theorem sm_bl {n d : Nat} {i : Bool} : Sm n d (.bl i) := by cases d <;> trivial
theorem sm_non {n d : Nat} : Sm n d .non := by cases d <;> trivial
theorem sm_str {n d : Nat} {s : List Nat} (h : s.length ≤ n) : Sm n d (.str s) := by cases d <;> exact h
theorem Sm.ups {n d : Nat} {v : P} (h : Sm n d v) : ∀ m, Sm n (d + m) v
  | 0 => h
  | m + 1 => (h.ups m).up
theorem sm_tup {n d : Nat} {ps : List P} (h : ps.length ≤ n) (q : ∀ p ∈ ps, Sm n d p) : Sm n (d + 1) (.tup ps) := ⟨h, q⟩
theorem sm_lst {n d : Nat} {ps : List P} (h : ps.length ≤ n) (q : ∀ p ∈ ps, Sm n d p) : Sm n (d + 1) (.lst ps) := ⟨h, q⟩
theorem nat2_snoc (bs : List Nat) (c : Nat) : nat2 bs ++ [P.int (c : Int)] = nat2 (bs ++ [c]) := by
  unfold nat2
  rw [List.map_append] <;> rfl
theorem nat2_len (bs : List Nat) : (nat2 bs).length = bs.length := by simp [nat2]
theorem so_mulL {xs : List P} {n : Nat} (h : xs.length * n ≤ line) (hn : n ≤ 100000) : opSem .mul [.lst xs, .imm (.int n)] = some (.lst (rept xs n)) := by
  have e : (2 : Int) ^ 62 = 4611686018427387904 := by decide
  simp only [opSem, opMul]
  rw [if_pos ⟨by omega, by omega, by rw [Int.toNat_natCast]; exact h⟩]
theorem rept_one (x : P) (n : Nat) : rept [x] (n : Int) = List.replicate n x := by
  unfold rept
  rw [Int.toNat_natCast]
  induction n with
  | zero => rfl
  | succ n ih => rw [List.replicate_succ, List.flatten_cons, ih, List.replicate_succ] <;> rfl
theorem nat2_get {T : List Nat} {j v : Nat} (h : T[j]? = some v) : atP (nat2 T) (j : Int) = some (.int v) := by
  have hl : j < (nat2 T).length := by rw [nat2_len]; exact (List.getElem?_eq_some_iff.mp h).1
  rw [at_nat hl]
  unfold nat2
  rw [List.getElem?_map, h] <;> rfl
theorem nat2_set (T : List Nat) (j v : Nat) : (nat2 T).set j (P.int (v : Int)) = nat2 (T.set j v) := by
  unfold nat2
  rw [List.map_set]
theorem min_nat (a b : Nat) : (if (b : Int) < (a : Int) then (b : Int) else (a : Int)) = ((min a b : Nat) : Int) := by
  split <;> omega
theorem so_neB (a b : Bool) : opSem .ne [.imm (.bl a), .imm (.bl b)] = some (.imm (.bl (a != b))) := by
  simp only [opSem, cmpEq, rd, depth, peq]
  cases a <;> cases b <;> rfl
theorem so_eqB (a b : Bool) : opSem .eq [.imm (.bl a), .imm (.bl b)] = some (.imm (.bl (a == b))) := by
  simp only [opSem, cmpEq, rd, depth, peq]
  cases a <;> cases b <;> rfl
def AL : Nat → P → Prop
  | 0, v => (match v with
    | .int _ => True
    | .str _ => True
    | _ => False)
  | d + 1, v => (match v with
    | .int _ => True
    | .str _ => True
    | .tup ps => ps.length ≤ 500 ∧ ∀ p ∈ ps, AL d p
    | _ => False)
theorem all_true (n : Nat) : (List.replicate n true).all id = true := by
  rw [List.all_eq_true]
  intro x hx
  rw [List.eq_of_mem_replicate hx] <;> rfl
theorem strs_all : ∀ ss : List (List Nat), allStrs (ss.map P.str) = some ss
  | [] => rfl
  | b :: bs => by
    rw [List.map_cons]
    show (allStrs (bs.map P.str)).map (b :: ·) = _
    rw [strs_all bs] <;> rfl
theorem joinL_nil : ∀ ss : List (List Nat), joinL [] ss = ss.flatten
  | [] => rfl
  | [x] => by simp [joinL]
  | x :: y :: r => by
    show x ++ [] ++ joinL [] (y :: r) = _
    rw [joinL_nil (y :: r), List.append_nil] <;> rfl
theorem so_join (ss : List (List Nat)) (h : (ss.map List.length).sum ≤ line) : opSem .join [.imm (.str []), .lst (ss.map P.str)] = some (.imm (.str ss.flatten)) := by
  simp only [opSem, opJoin, elems, Option.bind_some, strs_all]
  rw [if_pos (by simpa using h), joinL_nil]
theorem rept_chr (c n : Nat) : rept [c] (n : Int) = List.replicate n c := by
  unfold rept
  rw [Int.toNat_natCast]
  induction n with
  | zero => rfl
  | succ n ih => rw [List.replicate_succ, List.flatten_cons, ih, List.replicate_succ] <;> rfl
theorem so_mulS (c n : Nat) (h : n ≤ 100000) : opSem .mul [.imm (.str [c]), .imm (.int n)] = some (.imm (.str (List.replicate n c))) := by
  have e : (2 : Int) ^ 62 = 4611686018427387904 := by decide
  simp only [opSem, opMul]
  rw [if_pos ⟨by omega, by omega, by rw [Int.toNat_natCast]; exact le_lineN (by simp; omega)⟩, rept_chr]
theorem al_nat2 (l : List Nat) (h : l.length ≤ 500) : AL 1 (.tup (nat2 l)) := by
  refine ⟨by rw [nat2_len]; exact h, fun p hp => ?_⟩
  obtain ⟨c, _, rfl⟩ := List.mem_map.mp hp
  trivial
end Sw
/-! Sz2: order, least, sorted. -/
namespace Sw
open PySem PySem.W
theorem ltD_irrefl (p : P) : ltD p p = false := PyProof.Rows.lex_irrefl _
theorem ltD_neg (a b c : P) (h : ltD a c = true) : ltD a b = true ∨ ltD b c = true := PyProof.Rows.lex_negTrans _ _ _ h
theorem ltD_trans {a b c : P} (h : ltD a b = true) (h2 : ltD b c = true) : ltD a c = true := PyProof.Rows.lex_trans _ _ _ h h2
theorem ltD_le_trans {a b c : P} (h1 : ltD b a = false) (h2 : ltD c b = false) : ltD c a = false := by
  cases h : ltD c a with
  | false => rfl
  | true => rcases ltD_neg c b a h with q | q <;> simp_all
theorem ltD_asym {a b : P} (h : ltD a b = true) : ltD b a = false := by
  cases q : ltD b a with
  | false => rfl
  | true => have := ltD_trans h q; rw [ltD_irrefl] at this; cases this
theorem ltD_str (a b : List Nat) : ltD (.str a) (.str b) = decide (a < b) := by
  unfold ltD
  simp only [toPy]
  rw [dataLt_str] <;> rfl
theorem ltD_int (a b : Int) : ltD (.int a) (.int b) = decide (a < b) := by
  unfold ltD
  simp only [toPy]
  rw [dataLt_int]
theorem ltD_pair {x y x' y' : P} (h : alike (toPy x) (toPy x') = true) (h' : alike (toPy y) (toPy y') = true) : ltD (.tup [x, y]) (.tup [x', y']) = if PyData.eqv (toPy x) (toPy x') = true then (if PyData.eqv (toPy y) (toPy y') = true then false else ltD y y') else ltD x x' := by
  unfold ltD
  simp only [toPy, toPys]
  exact dataLt_pair h h'
theorem ltD_si (a b : List Nat) (i j : Int) : ltD (.tup [.str a, .int i]) (.tup [.str b, .int j]) = if a = b then decide (i < j) else decide (a < b) := by
  rw [ltD_pair (by simp [toPy, alike]) (by simp [toPy, alike]), ltD_str, ltD_int]
  have e1 : ((PyData.eqv (toPy (.str a)) (toPy (.str b))) = true) ↔ (a = b) := by
    simp only [toPy, PyData.eqv]
    refine ⟨fun h => sOf_inj (by simpa using h), fun h => by simp [h]⟩
  by_cases h : a = b
  · rw [if_pos (e1.mpr h), if_pos h]
    by_cases h2 : i = j
    · rw [if_pos (by simp [toPy, PyData.eqv, h2])]
      simp [h2]
    · rw [if_neg (by simp [toPy, PyData.eqv, h2])]
  · rw [if_neg (fun q => h (e1.mp q)), if_neg h]
theorem minD_spec : ∀ (ps : List P) (p : P), minD p ps ∈ p :: ps ∧ ∀ q ∈ p :: ps, ltD q (minD p ps) = false
  | [], p => ⟨List.mem_singleton.mpr rfl, fun q hq => by rw [List.mem_singleton.mp hq]; exact ltD_irrefl p⟩
  | y :: ys, p => by
    have e : minD p (y :: ys) = minD (if ltD y p then y else p) ys := rfl
    rw [e]
    obtain ⟨h1, h2⟩ := minD_spec ys (if ltD y p then y else p)
    cases hl : ltD y p with
    | true =>
      rw [hl] at h1 h2
      simp only [if_true] at h1 h2 ⊢
      refine ⟨List.mem_cons_of_mem _ h1, fun q hq => ?_⟩
      rcases List.mem_cons.mp hq with rfl | hq
      · exact ltD_le_trans (h2 y List.mem_cons_self) (ltD_asym hl)
      · exact h2 q hq
    | false =>
      rw [hl] at h1 h2
      simp only [Bool.false_eq_true, if_false] at h1 h2 ⊢
      refine ⟨(List.mem_cons.mp h1).elim (fun h => by rw [h]; exact List.mem_cons_self) fun h => List.mem_cons_of_mem _ (List.mem_cons_of_mem _ h), fun q hq => ?_⟩
      rcases List.mem_cons.mp hq with rfl | hq
      · exact h2 q List.mem_cons_self
      · rcases List.mem_cons.mp hq with rfl | hq
        · exact ltD_le_trans (h2 p List.mem_cons_self) hl
        · exact h2 q (List.mem_cons_of_mem _ hq)
theorem maxD_spec : ∀ (ps : List P) (p : P), maxD p ps ∈ p :: ps ∧ ∀ q ∈ p :: ps, ltD (maxD p ps) q = false
  | [], p => ⟨List.mem_singleton.mpr rfl, fun q hq => by rw [List.mem_singleton.mp hq]; exact ltD_irrefl p⟩
  | y :: ys, p => by
    have e : maxD p (y :: ys) = maxD (if ltD p y then y else p) ys := rfl
    rw [e]
    obtain ⟨h1, h2⟩ := maxD_spec ys (if ltD p y then y else p)
    cases hl : ltD p y with
    | true =>
      rw [hl] at h1 h2
      simp only [if_true] at h1 h2 ⊢
      refine ⟨List.mem_cons_of_mem _ h1, fun q hq => ?_⟩
      rcases List.mem_cons.mp hq with rfl | hq
      · exact ltD_le_trans (ltD_asym hl) (h2 y List.mem_cons_self)
      · exact h2 q hq
    | false =>
      rw [hl] at h1 h2
      simp only [Bool.false_eq_true, if_false] at h1 h2 ⊢
      refine ⟨(List.mem_cons.mp h1).elim (fun h => by rw [h]; exact List.mem_cons_self) fun h => List.mem_cons_of_mem _ (List.mem_cons_of_mem _ h), fun q hq => ?_⟩
      rcases List.mem_cons.mp hq with rfl | hq
      · exact h2 q List.mem_cons_self
      · rcases List.mem_cons.mp hq with rfl | hq
        · exact ltD_le_trans hl (h2 p List.mem_cons_self)
        · exact h2 q (List.mem_cons_of_mem _ hq)
theorem sortD_perm (ps : List P) : (sortD ps).Perm ps := List.mergeSort_perm ..
theorem sortD_sorted (ps : List P) : (sortD ps).Pairwise fun a b => ltD b a = false := by
  have := List.pairwise_mergeSort (le := fun a b => !ltD b a) (fun a b c h1 h2 => by
    simp only [Bool.not_eq_true'] at h1 h2 ⊢
    exact ltD_le_trans h1 h2) (fun a b => by
    cases h : ltD b a with
    | false => rfl
    | true => simp [ltD_asym h]) ps
  exact this.imp fun {a b} h => by simpa using h
theorem sortD_head {ps : List P} (h : ps ≠ []) : ∃ x t, sortD ps = x :: t ∧ x ∈ ps ∧ ∀ q ∈ ps, ltD q x = false := by
  cases e : sortD ps with
  | nil => exact absurd (List.Perm.eq_nil (e ▸ (sortD_perm ps).symm)) h
  | cons x t =>
    refine ⟨x, t, rfl, (sortD_perm ps).mem_iff.mp (by rw [e]; exact List.mem_cons_self), fun q hq => ?_⟩
    have hq' : q ∈ x :: t := by rw [← e]; exact (sortD_perm ps).mem_iff.mpr hq
    have hs := sortD_sorted ps
    rw [e] at hs
    rcases List.mem_cons.mp hq' with rfl | hq'
    · exact ltD_irrefl q
    · exact (List.pairwise_cons.mp hs).1 q hq'
theorem alikes_by {ps : List P} (h : ∀ p ∈ ps, ∀ q ∈ ps, PySem.W.alike (toPy p) (toPy q) = true) : alikes ps = true := List.all_eq_true.mpr fun p hp => List.all_eq_true.mpr fun q hq => h p hp q hq
theorem depths_le {n : Nat} : ∀ {ps : List P}, (∀ p ∈ ps, depth p ≤ n) → depths ps ≤ n
  | [], _ => by simp [depths]
  | p :: ps, h => by
    have h1 := h p List.mem_cons_self
    have h2 := depths_le (n := n) fun q hq => h q (List.mem_cons_of_mem _ hq)
    simp only [depths]
    omega
theorem so_sortS {ws : List (List Nat)} (h : ws.length ≤ line) : opSem .sorted [.lst (ws.map P.str)] = some (.lst (sortD (ws.map P.str))) := by
  simp only [opSem, opSorted, colOf, seqOf, listOf, Option.bind_some]
  rw [if_pos]
  unfold sortOk
  have h1 : alikes (ws.map P.str) = true := alikes_by fun p hp q hq => by
    obtain ⟨a, _, rfl⟩ := List.mem_map.mp hp
    obtain ⟨b, _, rfl⟩ := List.mem_map.mp hq
    simp [toPy, alike]
  have h2 : (ws.map P.str).all (fun p => !isNonP p && !isTupP p) = true := List.all_eq_true.mpr fun p hp => by
    obtain ⟨a, _, rfl⟩ := List.mem_map.mp hp
    rfl
  have h3 : depths (ws.map P.str) ≤ 50 := depths_le fun p hp => by
    obtain ⟨a, _, rfl⟩ := List.mem_map.mp hp
    simp [depth]
  rw [h1, h2, Bool.or_true, decide_eq_true h3, decide_eq_true (by simpa using h)] <;> rfl
theorem so_minSI {ws : List (List Nat × Nat)} {w : List Nat × Nat} : opSem .minL [.lst ((w :: ws).map fun q => P.tup [.str q.1, .int (q.2 : Int)])] = some (.imm (minD (.tup [.str w.1, .int (w.2 : Int)]) (ws.map fun q => P.tup [.str q.1, .int (q.2 : Int)]))) := by
  simp only [opSem, opMinL, seqOf, listOf, Option.bind_some, List.map_cons]
  rw [if_pos]
  unfold minOk
  rw [← List.map_cons (f := fun q : List Nat × Nat => P.tup [.str q.1, .int (q.2 : Int)])]
  have h1 : alikes ((w :: ws).map fun q => P.tup [.str q.1, .int (q.2 : Int)]) = true := alikes_by fun p hp q hq => by
    obtain ⟨a, _, rfl⟩ := List.mem_map.mp hp
    obtain ⟨b, _, rfl⟩ := List.mem_map.mp hq
    simp [toPy, toPys, alike, alikeAll]
  have h2 : ((w :: ws).map fun q => P.tup [.str q.1, .int (q.2 : Int)]).all (fun p => !isNonP p) = true := List.all_eq_true.mpr fun p hp => by
    obtain ⟨a, _, rfl⟩ := List.mem_map.mp hp
    rfl
  have h3 : depths ((w :: ws).map fun q => P.tup [.str q.1, .int (q.2 : Int)]) ≤ 50 := depths_le fun p hp => by
    obtain ⟨a, _, rfl⟩ := List.mem_map.mp hp
    simp [depth, depths]
  rw [h1, h2, decide_eq_true h3] <;> rfl
theorem so_maxI {x : Int} {xs : List Int} : opSem .maxL [.lst ((x :: xs).map P.int)] = some (.imm (maxD (.int x) (xs.map P.int))) := by
  simp only [opSem, opMaxL, seqOf, listOf, Option.bind_some, List.map_cons]
  rw [if_pos]
  unfold minOk
  rw [← List.map_cons (f := P.int)]
  have h1 : alikes ((x :: xs).map P.int) = true := alikes_by fun p hp q hq => by
    obtain ⟨a, _, rfl⟩ := List.mem_map.mp hp
    obtain ⟨b, _, rfl⟩ := List.mem_map.mp hq
    simp [toPy, alike]
  have h2 : ((x :: xs).map P.int).all (fun p => !isNonP p) = true := List.all_eq_true.mpr fun p hp => by
    obtain ⟨a, _, rfl⟩ := List.mem_map.mp hp
    rfl
  have h3 : depths ((x :: xs).map P.int) ≤ 50 := depths_le fun p hp => by
    obtain ⟨a, _, rfl⟩ := List.mem_map.mp hp
    simp [depth]
  rw [h1, h2, decide_eq_true h3] <;> rfl
theorem ascii_by {s : List Nat} (h : ∀ c ∈ s, c < 128) (l : s.length ≤ 100000) : ascii s = true := by
  unfold ascii
  rw [Bool.and_eq_true]
  exact ⟨List.all_eq_true.mpr fun c hc => decide_eq_true (h c hc), decide_eq_true (by omega)⟩
theorem so_swap {s : List Nat} (h : ∀ c ∈ s, c < 128) (l : s.length ≤ 100000) : opSem .swapcase [.imm (.str s)] = some (.imm (.str (s.map swC))) := by
  simp only [opSem, opTx, ascii_by h l, if_true]
theorem so_lower {s : List Nat} (h : ∀ c ∈ s, c < 128) (l : s.length ≤ 100000) : opSem .lower [.imm (.str s)] = some (.imm (.str (s.map loC))) := by
  simp only [opSem, opTx, ascii_by h l, if_true]
theorem so_upper {s : List Nat} (h : ∀ c ∈ s, c < 128) (l : s.length ≤ 100000) : opSem .upper [.imm (.str s)] = some (.imm (.str (s.map upC))) := by
  simp only [opSem, opTx, ascii_by h l, if_true]
theorem so_revS {s : List Nat} (h : s.length ≤ line) : opSem .rev [.imm (.str s)] = some (.imm (.str s.reverse)) := by
  simp only [opSem, opRev, h, if_true]
theorem so_mulW {s : List Nat} {n : Nat} (h : s.length * n ≤ line) (hn : n ≤ 100000) : opSem .mul [.imm (.str s), .imm (.int n)] = some (.imm (.str (List.replicate n s).flatten)) := by
  have e : (2 : Int) ^ 62 = 4611686018427387904 := by decide
  simp only [opSem, opMul]
  rw [if_pos ⟨by omega, by omega, by rw [Int.toNat_natCast]; exact h⟩]
  unfold rept
  rw [Int.toNat_natCast]
theorem cut_init {α : Type} (s : List α) : cutP s none (some (-1)) = s.dropLast := by
  unfold cutP sIxP
  simp only
  rw [if_pos (by decide), List.drop_zero, List.dropLast_eq_take]
  congr 1
  omega
theorem flat_chr (w : List Nat) : (w.map fun c => [c]).flatten = w := by
  induction w with
  | nil => rfl
  | cons c w ih => rw [List.map_cons, List.flatten_cons, ih] <;> rfl
theorem find_chr (c : Nat) : ∀ (s : List Nat) (n : Nat), (findAt [c] s n).isSome = s.contains c
  | [], n => rfl
  | x :: xs, n => by
    unfold findAt
    by_cases h : c = x
    · subst h; simp [List.isPrefixOf]
    · have h2 : ¬ x = c := fun q => h q.symm
      simp [List.isPrefixOf, h, find_chr c xs (n + 1)]
theorem chr_list (w : List Nat) : (w.map fun c => P.str [c]) = (w.map fun c => [c]).map P.str := by rw [List.map_map] <;> rfl
theorem so_joinC {w : List Nat} (h : w.length ≤ line) : opSem .join [.imm (.str []), .lst ((w.map fun c => [c]).map P.str)] = some (.imm (.str w)) := by
  rw [so_join _ ?_, flat_chr]
  have : (((w.map fun c => [c]).map List.length)).sum = w.length := by rw [← List.length_flatten, flat_chr]
  rw [this]
  exact h
theorem so_modN {a b : Nat} (h : 0 < b) : opSem .mod [.imm (.int (a : Int)), .imm (.int (b : Int))] = some (.imm (.int ((a % b : Nat) : Int))) := by
  rw [so_mod (by omega), Int.fmod_eq_emod_of_nonneg _ (by omega)]
  rfl
theorem so_fdivN {a b : Nat} (h : 0 < b) (h2 : b < 1000000) : opSem .fdiv [.imm (.int (a : Int)), .imm (.int (b : Int))] = some (.imm (.int ((a / b : Nat) : Int))) := by
  rw [so_fdiv ⟨by omega, by omega⟩, Int.fdiv_eq_ediv_of_nonneg _ (by omega)]
  rfl
theorem so_maxN (a b : Nat) : opSem .max2 [.imm (.int (a : Int)), .imm (.int (b : Int))] = some (.imm (.int ((max a b : Nat) : Int))) := by
  rw [so_max]
  have : (if (b : Int) > (a : Int) then (b : Int) else (a : Int)) = ((max a b : Nat) : Int) := by split <;> omega
  rw [this]
theorem so_minN (a b : Nat) : opSem .min2 [.imm (.int (a : Int)), .imm (.int (b : Int))] = some (.imm (.int ((min a b : Nat) : Int))) := by
  rw [so_min]
  have : (if (b : Int) < (a : Int) then (b : Int) else (a : Int)) = ((min a b : Nat) : Int) := by split <;> omega
  rw [this]
theorem so_maxNat {l : List Nat} (h : l ≠ []) : ∃ m ∈ l, opSem .maxL [.lst (nat2 l)] = some (.imm (.int (m : Int))) ∧ ∀ q ∈ l, q ≤ m := by
  cases l with
  | nil => exact absurd rfl h
  | cons a l =>
    have e : nat2 (a :: l) = ((a : Int) :: l.map fun x : Nat => (x : Int)).map P.int := by
      unfold nat2
      rw [List.map_cons, List.map_cons, List.map_map] <;> rfl
    have h1 := so_maxI (x := (a : Int)) (xs := l.map fun x : Nat => (x : Int))
    rw [← e] at h1
    obtain ⟨h2, h3⟩ := maxD_spec ((l.map fun x : Nat => (x : Int)).map P.int) (.int (a : Int))
    have e2 : (P.int (a : Int) :: (l.map fun x : Nat => (x : Int)).map P.int) = nat2 (a :: l) := e.symm
    rw [e2] at h2 h3
    generalize maxD (.int (a : Int)) ((l.map fun x : Nat => (x : Int)).map P.int) = M at *
    obtain ⟨m, hm, rfl⟩ := List.mem_map.mp h2
    refine ⟨m, hm, h1, fun q hq => ?_⟩
    have := h3 (.int (q : Int)) (List.mem_map.mpr ⟨q, hq, rfl⟩)
    rw [ltD_int] at this
    have := of_decide_eq_false this
    omega
theorem so_minNat {l : List Nat} (h : l ≠ []) : ∃ m ∈ l, opSem .minL [.lst (nat2 l)] = some (.imm (.int (m : Int))) ∧ ∀ q ∈ l, m ≤ q := by
  cases l with
  | nil => exact absurd rfl h
  | cons a l =>
    have h1 : opSem .minL [.lst (nat2 (a :: l))] = some (.imm (minD (.int (a : Int)) (nat2 l))) := by
      simp only [opSem, opMinL, seqOf, listOf, Option.bind_some, nat2, List.map_cons]
      rw [if_pos]
      unfold minOk
      rw [← List.map_cons (f := fun b : Nat => P.int (b : Int))]
      have h1 : alikes ((a :: l).map fun b : Nat => P.int (b : Int)) = true := alikes_by fun p hp q hq => by
        obtain ⟨a, _, rfl⟩ := List.mem_map.mp hp
        obtain ⟨b, _, rfl⟩ := List.mem_map.mp hq
        simp [toPy, alike]
      have h2 : ((a :: l).map fun b : Nat => P.int (b : Int)).all (fun p => !isNonP p) = true := List.all_eq_true.mpr fun p hp => by
        obtain ⟨a, _, rfl⟩ := List.mem_map.mp hp
        rfl
      have h3 : depths ((a :: l).map fun b : Nat => P.int (b : Int)) ≤ 50 := depths_le fun p hp => by
        obtain ⟨a, _, rfl⟩ := List.mem_map.mp hp
        simp [depth]
      rw [h1, h2, decide_eq_true h3] <;> rfl
    obtain ⟨h2, h3⟩ := minD_spec (nat2 l) (.int (a : Int))
    have e2 : (P.int (a : Int) :: nat2 l) = nat2 (a :: l) := rfl
    rw [e2] at h2 h3
    generalize minD (.int (a : Int)) (nat2 l) = M at *
    obtain ⟨m, hm, rfl⟩ := List.mem_map.mp h2
    refine ⟨m, hm, h1, fun q hq => ?_⟩
    have := h3 (.int (q : Int)) (List.mem_map.mpr ⟨q, hq, rfl⟩)
    rw [ltD_int] at this
    have := of_decide_eq_false this
    omega
theorem so_reprB (b : Bool) : opSem .repr [.imm (.bl b)] = some (.imm (.str (if b then [84, 114, 117, 101] else [70, 97, 108, 115, 101]))) := rfl
end Sw
/-! St: one statement a step. -/
namespace Sw
def wpx (Φ : CallS) (G : List P) (as : List T) (Q : Fl × En → Prop) (x : Option (Fl × En)) : Prop := wp (x.bind fun r => match r.1 with
      | .nx => exs Φ G as r.2
      | f => some (f, r.2)) Q
theorem wp_stepX {Φ : CallS} {G : List P} {a : T} {as : List T} {e : En} {Q : Fl × En → Prop} {x : Option (Fl × En)} (h : ex Φ G a e = x) (hb : wpx Φ G as Q x) : wp (exs Φ G (a :: as) e) Q := by
  rw [sx_scons, h]
  exact hb
theorem wpx_nx {Φ : CallS} {G : List P} {as : List T} {e : En} {Q : Fl × En → Prop} (h : wp (exs Φ G as e) Q) : wpx Φ G as Q (some (.nx, e)) := h
theorem wpx_rt {Φ : CallS} {G : List P} {as : List T} {e : En} {d : D} {Q : Fl × En → Prop} (h : Q (.rt d, e)) : wpx Φ G as Q (some (.rt d, e)) := ⟨_, rfl, h⟩
theorem wpx_ite {Φ : CallS} {G : List P} {as : List T} {b : Bool} {x y : Option (Fl × En)} {Q : Fl × En → Prop} (h1 : b = true → wpx Φ G as Q x) (h2 : b = false → wpx Φ G as Q y) : wpx Φ G as Q (if b = true then x else y) := by
  cases b with
  | true => exact h1 rfl
  | false => exact h2 rfl
theorem wp_end {Φ : CallS} {G : List P} {e : En} {Q : Fl × En → Prop} (h : Q (.nx, e)) : wp (exs Φ G [] e) Q := ⟨_, by rw [sx_snil], h⟩
@[simp] theorem lle_0 : (0 : Nat) ≤ line := by decide
@[simp] theorem llt_0 : (0 : Nat) < line := by decide
@[simp] theorem lle_1 : (1 : Nat) ≤ line := by decide
@[simp] theorem llt_1 : (1 : Nat) < line := by decide
@[simp] theorem lle_2 : (2 : Nat) ≤ line := by decide
@[simp] theorem llt_2 : (2 : Nat) < line := by decide
@[simp] theorem lle_3 : (3 : Nat) ≤ line := by decide
@[simp] theorem llt_3 : (3 : Nat) < line := by decide
@[simp] theorem lle_4 : (4 : Nat) ≤ line := by decide
@[simp] theorem llt_4 : (4 : Nat) < line := by decide
@[simp] theorem lle_5 : (5 : Nat) ≤ line := by decide
@[simp] theorem llt_5 : (5 : Nat) < line := by decide
@[simp] theorem lle_6 : (6 : Nat) ≤ line := by decide
@[simp] theorem llt_6 : (6 : Nat) < line := by decide
@[simp] theorem lle_7 : (7 : Nat) ≤ line := by decide
@[simp] theorem llt_7 : (7 : Nat) < line := by decide
@[simp] theorem lle_8 : (8 : Nat) ≤ line := by decide
@[simp] theorem llt_8 : (8 : Nat) < line := by decide
@[simp] theorem lle_9 : (9 : Nat) ≤ line := by decide
@[simp] theorem llt_9 : (9 : Nat) < line := by decide
@[simp] theorem lle_10 : (10 : Nat) ≤ line := by decide
@[simp] theorem llt_10 : (10 : Nat) < line := by decide
@[simp] theorem lle_11 : (11 : Nat) ≤ line := by decide
@[simp] theorem llt_11 : (11 : Nat) < line := by decide
@[simp] theorem lle_12 : (12 : Nat) ≤ line := by decide
@[simp] theorem llt_12 : (12 : Nat) < line := by decide
@[simp] theorem lle_13 : (13 : Nat) ≤ line := by decide
@[simp] theorem llt_13 : (13 : Nat) < line := by decide
@[simp] theorem lle_14 : (14 : Nat) ≤ line := by decide
@[simp] theorem llt_14 : (14 : Nat) < line := by decide
@[simp] theorem lle_15 : (15 : Nat) ≤ line := by decide
@[simp] theorem llt_15 : (15 : Nat) < line := by decide
@[simp] theorem lle_16 : (16 : Nat) ≤ line := by decide
@[simp] theorem llt_16 : (16 : Nat) < line := by decide
@[simp] theorem lle_17 : (17 : Nat) ≤ line := by decide
@[simp] theorem llt_17 : (17 : Nat) < line := by decide
@[simp] theorem lle_18 : (18 : Nat) ≤ line := by decide
@[simp] theorem llt_18 : (18 : Nat) < line := by decide
@[simp] theorem lle_19 : (19 : Nat) ≤ line := by decide
@[simp] theorem llt_19 : (19 : Nat) < line := by decide
@[simp] theorem lle_20 : (20 : Nat) ≤ line := by decide
@[simp] theorem llt_20 : (20 : Nat) < line := by decide
@[simp] theorem lle_21 : (21 : Nat) ≤ line := by decide
@[simp] theorem llt_21 : (21 : Nat) < line := by decide
@[simp] theorem lle_22 : (22 : Nat) ≤ line := by decide
@[simp] theorem llt_22 : (22 : Nat) < line := by decide
@[simp] theorem lle_23 : (23 : Nat) ≤ line := by decide
@[simp] theorem llt_23 : (23 : Nat) < line := by decide
@[simp] theorem sx_nmDf {i : Nat} {e : En} {kvs : List (P × P)} (h : getE e i = some (.dic false kvs)) : nmSem i e = some (.slot i) := sx_nmD h
@[simp] theorem sx_mvDf {i : Nat} {e : En} {kvs : List (P × P)} (h : getE e i = some (.dic false kvs)) : mvSem i e = some (.tmp (.dic false kvs), e.set i none) := sx_mvD h
@[simp] theorem sx_stoDf {i : Nat} {q p : P} {e : En} {kvs : List (P × P)} (h : getE e i = some (.dic false kvs)) : stoSem i q p e = if keyOk false q = true ∧ kvs.length < line then some (e.set i (some (.dic false (putKV kvs q p)))) else none := sx_stoD h
@[simp] theorem sx_nmDt {i : Nat} {e : En} {kvs : List (P × P)} (h : getE e i = some (.dic true kvs)) : nmSem i e = some (.slot i) := sx_nmD h
@[simp] theorem sx_mvDt {i : Nat} {e : En} {kvs : List (P × P)} (h : getE e i = some (.dic true kvs)) : mvSem i e = some (.tmp (.dic true kvs), e.set i none) := sx_mvD h
@[simp] theorem sx_stoDt {i : Nat} {q p : P} {e : En} {kvs : List (P × P)} (h : getE e i = some (.dic true kvs)) : stoSem i q p e = if keyOk true q = true ∧ kvs.length < line then some (e.set i (some (.dic true (putKV kvs q p)))) else none := sx_stoD h
@[simp] theorem ko_int (i : Int) : keyOk false (.int i) = true := rfl
@[simp] theorem ko_str (i : List Nat) : keyOk false (.str i) = true := rfl
theorem exs_app {Φ : CallS} {G : List P} : ∀ (a as : List T) (e : En), exs Φ G (a ++ as) e = (exs Φ G a e).bind fun r => match r.1 with
      | .nx => exs Φ G as r.2
      | f => some (f, r.2)
  | [], as, e => by rw [List.nil_append, sx_snil] <;> rfl
  | b :: a, as, e => by
    rw [List.cons_append, sx_scons, sx_scons]
    cases ex Φ G b e with
    | none => rfl
    | some r =>
      obtain ⟨fl, e'⟩ := r
      cases fl with
      | nx => exact exs_app a as e'
      | _ => rfl
theorem wp_ifT {Φ : CallS} {G : List P} {t : E} {a b as : List T} {e e' : En} {Q : Fl × En → Prop} (h : tst Φ G t e = some (true, e')) (hb : wp (exs Φ G (a ++ as) e') Q) : wp (exs Φ G (.ifs t a b :: as) e) Q := by
  have e1 : ex Φ G (.ifs t a b) e = exs Φ G a e' := by
    rw [sx_ifs]
    unfold tst at h
    cases q : evo Φ G t e with
    | none => rw [q] at h; cases h
    | some x =>
      rw [q] at h
      simp only [Option.bind_some] at h ⊢
      cases q2 : resv x.2 x.1 with
      | none => rw [q2] at h; cases h
      | some d =>
        rw [q2] at h
        simp only [Option.bind_some] at h ⊢
        cases q3 : truth d with
        | none => rw [q3] at h; cases h
        | some k =>
          rw [q3] at h
          simp only [Option.bind_some, Option.some.injEq, Prod.mk.injEq] at h ⊢
          obtain ⟨rfl, rfl⟩ := h
          rfl
  rw [exs_app] at hb
  rw [sx_scons, e1]
  exact hb
theorem wp_ifF {Φ : CallS} {G : List P} {t : E} {a b as : List T} {e e' : En} {Q : Fl × En → Prop} (h : tst Φ G t e = some (false, e')) (hb : wp (exs Φ G (b ++ as) e') Q) : wp (exs Φ G (.ifs t a b :: as) e) Q := by
  have e1 : ex Φ G (.ifs t a b) e = exs Φ G b e' := by
    rw [sx_ifs]
    unfold tst at h
    cases q : evo Φ G t e with
    | none => rw [q] at h; cases h
    | some x =>
      rw [q] at h
      simp only [Option.bind_some] at h ⊢
      cases q2 : resv x.2 x.1 with
      | none => rw [q2] at h; cases h
      | some d =>
        rw [q2] at h
        simp only [Option.bind_some] at h ⊢
        cases q3 : truth d with
        | none => rw [q3] at h; cases h
        | some k =>
          rw [q3] at h
          simp only [Option.bind_some, Option.some.injEq, Prod.mk.injEq] at h ⊢
          obtain ⟨rfl, rfl⟩ := h
          rfl
  rw [exs_app] at hb
  rw [sx_scons, e1]
  exact hb
def itm (Φ : CallS) (G : List P) (k : IK) (as : List E) (e : En) : Option (List P × List Opd × En) := (evos Φ G as e).bind fun r => (resvs r.2 r.1).bind fun ds => (items k ds).bind fun ps => some (ps, r.1, r.2)
theorem wp_fors (I : Nat → En → Prop) {Φ : CallS} {G : List P} {t : Pat} {k : IK} {as : List E} {body rest : List T} {e e1 : En} {ps : List P} {os : List Opd} {Q : Fl × En → Prop}
    (h : itm Φ G k as e = some (ps, os, e1)) (hf : freeOf os (asgP t ++ asgTs body) = true) (h0 : I 0 e1)
    (hs : ∀ i p e2, ps[i]? = some p → I i e2 → wp ((bindP t p e2).bind fun e3 => exs Φ G body e3) fun r => match r.1 with
      | .nx => lockOk os e1 r.2 = true ∧ I (i + 1) r.2
      | .ct => lockOk os e1 r.2 = true ∧ I (i + 1) r.2
      | .bk => wp (exs Φ G rest r.2) Q
      | .rt d => Q (.rt d, r.2))
    (hd : ∀ e2, I ps.length e2 → wp (exs Φ G rest e2) Q) : wp (exs Φ G (.fors t k as body :: rest) e) Q := by
  have e2 : ex Φ G (.fors t k as body) e = forL (stepFf Φ G t body) (fun e' => lockOk os e1 e') ps e1 := by
    rw [sx_for]
    unfold itm at h
    cases q : evos Φ G as e with
    | none => rw [q] at h; cases h
    | some r =>
      rw [q] at h
      simp only [Option.bind_some] at h ⊢
      cases q2 : resvs r.2 r.1 with
      | none => rw [q2] at h; cases h
      | some ds =>
        rw [q2] at h
        simp only [Option.bind_some] at h ⊢
        cases q3 : items k ds with
        | none => rw [q3] at h; cases h
        | some k =>
          rw [q3] at h
          simp only [Option.bind_some, Option.some.injEq, Prod.mk.injEq] at h ⊢
          obtain ⟨rfl, rfl, rfl⟩ := h
          rw [if_pos hf]
  rw [sx_scons, wp_bind, e2]
  refine wp_for I h0 (fun i p e hp hi => wp_mono (hs i p e hp hi) fun r hr => ?_) fun e he => hd e he
  obtain ⟨fl, e'⟩ := r
  cases fl with
  | nx => exact hr
  | ct => exact hr
  | bk => exact hr
  | rt d => exact (wp_some _).mpr hr
theorem wp_bnd {Φ : CallS} {G : List P} {t : Pat} {p : P} {e e3 : En} {body : List T} {Q : Fl × En → Prop} (h : bindP t p e = some e3) (hb : wp (exs Φ G body e3) Q) : wp ((bindP t p e).bind fun e3 => exs Φ G body e3) Q := by
  rw [h]; exact hb
/-- a while: its test, its body -/
theorem wp_whls (I : Nat → En → Prop) {Φ : CallS} {G : List P} {n : Nat} {t : E} {body rest : List T} {e : En} {m : Nat} {Q : Fl × En → Prop} (h0 : I m e) (hm : m < n)
    (hs : ∀ m e, I m e → ∃ b e', tst Φ G t e = some (b, e') ∧ if b = true then wp (exs Φ G body e') fun r => (match r.1 with
      | .nx => ∃ m', m' < m ∧ I m' r.2
      | .ct => ∃ m', m' < m ∧ I m' r.2
      | .bk => wp (exs Φ G rest r.2) Q
      | .rt d => Q (.rt d, r.2)) else wp (exs Φ G rest e') Q) : wp (exs Φ G (.whl n t body :: rest) e) Q := by
  rw [sx_scons, sx_whl, wp_bind]
  refine wp_whl I h0 hm fun m e hi => ?_
  obtain ⟨b, e', ht, hb⟩ := hs m e hi
  have e1 : stepWw Φ G t body e = if b = true then (exs Φ G body e').bind fun r => some (true, r.1, r.2) else some (false, .nx, e') := by
    unfold stepWw
    unfold tst at ht
    cases q : evo Φ G t e with
    | none => rw [q] at ht; cases ht
    | some x =>
      rw [q] at ht
      simp only [Option.bind_some] at ht ⊢
      cases q2 : resv x.2 x.1 with
      | none => rw [q2] at ht; cases ht
      | some d =>
        rw [q2] at ht
        simp only [Option.bind_some] at ht ⊢
        cases q3 : truth d with
        | none => rw [q3] at ht; cases ht
        | some k =>
          rw [q3] at ht
          simp only [Option.bind_some, Option.some.injEq, Prod.mk.injEq] at ht ⊢
          obtain ⟨rfl, rfl⟩ := ht
          rfl
  rw [e1]
  cases b with
  | true =>
    rw [if_pos rfl] at hb ⊢
    rw [wp_bind]
    refine wp_mono hb fun r hr => (wp_some _).mpr ?_
    obtain ⟨fl, e2⟩ := r
    cases fl with
    | nx => exact hr
    | ct => exact hr
    | bk => exact hr
    | rt d => exact (wp_some _).mpr hr
  | false =>
    rw [if_neg (by decide)] at hb ⊢
    exact (wp_some _).mpr hb
/-! a comprehension that changes no name -/
theorem comp_map {α : Type} {step : P → List P → En → Option (List P × En)} {e : En} (f g : α → P) (c : α → Bool) {l : List α} (hl : l.length ≤ line)
    (hs : ∀ a ∈ l, ∀ acc : List P, acc.length < line → step (f a) acc e = some (acc ++ (if c a then [g a] else []), e)) : compL step (l.map f) [] e = some ((l.filter c).map g, e) := by
  have key : ∀ (m : List α) (acc : List P), acc.length + m.length ≤ line → (∀ a ∈ m, a ∈ l) → compL step (m.map f) acc e = some (acc ++ (m.filter c).map g, e) := by
    intro m
    induction m with
    | nil => intro acc _ _; simp [compL]
    | cons a m ih =>
      intro acc h1 h2
      rw [List.length_cons] at h1
      rw [List.map_cons]
      unfold compL
      rw [hs a (h2 a List.mem_cons_self) acc (by omega), Option.bind_some]
      show compL step (m.map f) (acc ++ if c a then [g a] else []) e = _
      rw [ih _ (by rw [List.length_append]; split <;> simp <;> omega) fun b hb => h2 b (List.mem_cons_of_mem _ hb)]
      cases hc : c a <;> simp [hc]
  have := key l [] (by rw [List.length_nil, Nat.zero_add]; exact hl) fun a h => h
  simpa using this
theorem comp_all {α : Type} {step : P → List P → En → Option (List P × En)} {e : En} (f g : α → P) {l : List α} (hl : l.length ≤ line)
    (hs : ∀ a ∈ l, ∀ acc : List P, acc.length < line → step (f a) acc e = some (acc ++ [g a], e)) : compL step (l.map f) [] e = some (l.map g, e) := by
  have := comp_map (step := step) (e := e) f g (fun _ => true) hl fun a ha acc hacc => by simpa using hs a ha acc hacc
  rw [this, List.filter_eq_self.mpr (fun _ _ => rfl)]
/-! all words of n letters -/
def allW (A : List Nat) : Nat → List (List Nat)
  | 0 => [[]]
  | n + 1 => (allW A n).flatMap fun w => A.map fun c => w ++ [c]
theorem allW_len (A : List Nat) : ∀ n, (allW A n).length = A.length ^ n
  | 0 => rfl
  | n + 1 => by
    unfold allW
    rw [List.length_flatMap, Nat.pow_succ]
    simp only [List.length_map]
    rw [List.map_const', List.sum_replicate_nat, allW_len A n]
theorem allW_mem {A : List Nat} : ∀ {n : Nat} {w : List Nat}, w ∈ allW A n ↔ w.length = n ∧ ∀ c ∈ w, c ∈ A
  | 0, w => by
    unfold allW
    rw [List.mem_singleton]
    constructor
    · rintro rfl; exact ⟨rfl, fun c h => nomatch h⟩
    · rintro ⟨h, _⟩; exact List.length_eq_zero_iff.mp h
  | n + 1, w => by
    unfold allW
    rw [List.mem_flatMap]
    constructor
    · rintro ⟨u, hu, hw⟩
      obtain ⟨c, hc, rfl⟩ := List.mem_map.mp hw
      obtain ⟨h1, h2⟩ := allW_mem.mp hu
      refine ⟨by simp [h1], fun d hd => ?_⟩
      rcases List.mem_append.mp hd with hd | hd
      · exact h2 d hd
      · rw [List.mem_singleton.mp hd]; exact hc
    · rintro ⟨h1, h2⟩
      have hne : w ≠ [] := fun q => by subst q; simp at h1
      refine ⟨w.dropLast, allW_mem.mpr ⟨by simp [h1], fun c hc => h2 c (List.dropLast_subset _ hc)⟩, List.mem_map.mpr ⟨w.getLast hne, h2 _ (List.getLast_mem hne), List.dropLast_concat_getLast hne⟩⟩
def wordsD (n : Nat) (l : List P) : D := if n = 0 then .lst l else .imm (.lst l)
theorem items_words (n : Nat) (l : List P) : items .seq [wordsD n l] = some l := by
  unfold wordsD; split <;> rfl
theorem wp_fors0 (I : Nat → En → Prop) {Φ : CallS} {G : List P} {t : Pat} {k : IK} {as : List E} {body rest : List T} {e : En} {ps : List P} {os : List Opd} {Q : Fl × En → Prop}
    (h : itm Φ G k as e = some (ps, os, e)) (hf : freeOf os (asgP t ++ asgTs body) = true) (h0 : I 0 e)
    (hs : ∀ i p e2, ps[i]? = some p → I i e2 → wp ((bindP t p e2).bind fun e3 => exs Φ G body e3) fun r => match r.1 with
      | .nx => lockOk os e r.2 = true ∧ I (i + 1) r.2
      | .ct => lockOk os e r.2 = true ∧ I (i + 1) r.2
      | .bk => wp (exs Φ G rest r.2) Q
      | .rt d => Q (.rt d, r.2))
    (hd : ∀ e2, I ps.length e2 → wp (exs Φ G rest e2) Q) : wp (exs Φ G (.fors t k as body :: rest) e) Q := wp_fors I h hf h0 hs hd
theorem map_get {α : Type} {f : α → P} {l : List α} {i : Nat} {p : P} (h : (l.map f)[i]? = some p) : ∃ a, l[i]? = some a ∧ p = f a := by
  rw [List.getElem?_map] at h
  cases q : l[i]? with
  | none => rw [q] at h; cases h
  | some c => rw [q] at h; cases h; exact ⟨c, rfl, rfl⟩
theorem take_snoc {α : Type} {l : List α} {i : Nat} {a : α} (h : l[i]? = some a) : l.take (i + 1) = l.take i ++ [a] := by
  rw [List.take_add_one, h] <;> rfl
end Sw
/-! Sd: dicts of the evaluator. -/
namespace Sw
theorem getKV_nil (q : P) : getKV [] q = none := rfl
theorem getKV_cons (p : P × P) (r : List (P × P)) (q : P) : getKV (p :: r) q = if p.1 = q then some p.2 else getKV r q := by
  unfold getKV
  rw [List.find?_cons]
  by_cases h : p.1 = q
  · rw [decide_eq_true h, if_pos h] <;> rfl
  · rw [decide_eq_false h, if_neg h]
theorem getKV_app (a b : List (P × P)) (q : P) : getKV (a ++ b) q = (getKV a q).or (getKV b q) := by
  induction a with
  | nil => simp [getKV_nil]
  | cons p r ih =>
    rw [List.cons_append, getKV_cons, getKV_cons, ih]
    split <;> simp
theorem getKV_none {kvs : List (P × P)} {k : P} (h : (kvs.any fun q => decide (q.1 = k)) = false) : getKV kvs k = none := by
  induction kvs with
  | nil => rfl
  | cons p r ih =>
    rw [List.any_cons, Bool.or_eq_false_iff] at h
    rw [getKV_cons, if_neg (of_decide_eq_false h.1), ih h.2]
theorem getKV_map (kvs : List (P × P)) (k v q : P) : getKV (kvs.map fun p => if p.1 = k then (p.1, v) else p) q = if k = q then (if (kvs.any fun p => decide (p.1 = k)) then some v else none) else getKV kvs q := by
  induction kvs with
  | nil => simp [getKV_nil]
  | cons p r ih =>
    rw [List.map_cons, getKV_cons, ih, getKV_cons, List.any_cons]
    by_cases h1 : p.1 = k
    · by_cases h2 : k = q
      · simp [h1, h2]
      · have : ¬ p.1 = q := fun e => h2 (h1 ▸ e)
        simp [h1, h2]
    · by_cases h2 : p.1 = q
      · have : ¬ k = q := fun e => h1 (h2.trans e.symm)
        have h3 : ¬ q = k := fun e => this e.symm
        simp [h1, h2, this, h3]
      · rw [if_neg h1, if_neg h2, if_neg h2, decide_eq_false h1, Bool.false_or]
theorem getKV_put (kvs : List (P × P)) (k v q : P) : getKV (putKV kvs k v) q = if k = q then some v else getKV kvs q := by
  unfold putKV
  cases h : kvs.any fun q => decide (q.1 = k) with
  | true => rw [if_pos rfl, getKV_map, h, if_pos rfl]
  | false =>
    rw [if_neg (by decide), getKV_app, getKV_cons, getKV_nil]
    by_cases hk : k = q
    · subst hk; rw [getKV_none h]; simp
    · simp [hk]
theorem putKV_len (kvs : List (P × P)) (k v : P) : (putKV kvs k v).length ≤ kvs.length + 1 := by
  unfold putKV
  split <;> simp
theorem so_inK {kvs : List (P × P)} {p : P} (h : keyK p = true) : opSem .isin [.imm p, .dic false kvs] = some (.imm (.bl (getKV kvs p).isSome)) := by
  cases p <;> first | (simp only [opSem, opIn, keyOk, h]; rfl) | cases h
theorem so_notinK {kvs : List (P × P)} {p : P} (h : keyK p = true) : opSem .notin [.imm p, .dic false kvs] = some (.imm (.bl (!(getKV kvs p).isSome))) := by
  cases p <;> first | (simp only [opSem, opIn, keyOk, h]; rfl) | cases h
end Sw
namespace Sw.k45
theorem c_start (k : Nat) (ns : List Int) (hl : ns.length ≤ 63) : ∃ xs, callF prog G (k + 1) 13 [.imm (.lst (ns.map P.int))] = some (.lst xs, [.imm (.lst (ns.map P.int))]) ∧ WC xs := by
  refine ⟨_, wp_is (call_wp (fn := f__law_start) rfl rfl ?_), ns, 0, 0, 0, rfl, Nat.zero_le _⟩
  have e : cutP (ns.map P.int) none (some 63) = ns.map P.int := by
    rw [show (63 : Int) = ((63 : Nat) : Int) from rfl, cut_0n, List.take_of_length_le (by simpa using hl)]
  simp -implicitDefEqProofs [f__law_start, b__law_start, e]
  refine wp_comp (fun i acc e => acc = (ns.take i).map P.int ∧ ∃ x, e = [some (.imm (.lst (ns.map P.int))), x]) ⟨by simp, none, rfl⟩ (fun i p acc e hp hi => ?_) (fun acc e hi => ?_)
  · obtain ⟨rfl, x, rfl⟩ := hi
    obtain ⟨n, hn, rfl⟩ : ∃ n, ns[i]? = some n ∧ p = .int n := by
      rw [List.getElem?_map] at hp
      cases q : ns[i]? with
      | none => rw [q] at hp; cases hp
      | some n => rw [q] at hp; cases hp; exact ⟨n, rfl, rfl⟩
    have hlen : ((ns.take i).map P.int).length < line := lt_lineN (by simp; omega)
    simp only [List.length_map, List.length_take] at hlen
    simp -implicitDefEqProofs [stepCc, hlen]
    simp [List.take_add_one, List.getElem?_map, hn]
  · obtain ⟨rfl, x, rfl⟩ := hi
    have h5 : (5 : Nat) ≤ line := le_lineN (by omega)
    rw [List.length_map, List.take_of_length_le (Nat.le_refl _)]
    all_goals simp -implicitDefEqProofs [h5]
theorem c_fill (k : Nat) (xs : List P) (h : WC xs) : ∃ (xs' : List P) (n : Nat), callF prog G (k + 1) 14 [.lst xs] = some (.imm (.int n), [.lst xs']) ∧ WC xs' := by
  obtain ⟨ns, i, pool, t, rfl, hi⟩ := h
  have key : ∃ r, callF prog G (k + 1) 14 [.lst [.lst (ns.map P.int), .int i, .int pool, .int t, .int 20]] = some r ∧ ∃ (xs' : List P) (n : Nat), r = (.imm (.int n), [.lst xs']) ∧ WC xs' := by
    refine wp_all fun R hR => call_wp (fn := f__law_fill) rfl rfl ?_
    simp only [f__law_fill, b__law_fill]
    refine wp_seq (fun r => r = (.nx, [some (.lst [.lst (ns.map P.int), .int i, .int pool, .int (t + 1), .int 20]), none])) (fun R hR => ?_) fun r hr => ?_
    · simp -implicitDefEqProofs [atC, ixC]
      exact hR _ rfl
    subst hr
    refine wp_seq (fun r => ∃ z : Int, r = (.nx, [some (.lst [.lst (ns.map P.int), .int i, .int pool, .int (t + 1), .int 20]), some (.imm (.int z))])) (fun R hR => ?_) fun r hr => ?_
    · simp -implicitDefEqProofs [atC, ixC, so_mul, mulK]
      exact hR _ ⟨_, rfl⟩
    obtain ⟨z, rfl⟩ := hr
    refine wp_seq (fun r => (∃ (z : Nat) (j : Nat), j ≤ ns.length ∧ r = (.rt (.imm (.int z)), [some (.lst [.lst (ns.map P.int), .int j, .int pool, .int (t + 1), .int 20]), some (.imm (.int z))])) ∨
      ∃ (z : Int) (j : Nat), j ≤ ns.length ∧ r = (.nx, [some (.lst [.lst (ns.map P.int), .int j, .int pool, .int (t + 1), .int 20]), some (.imm (.int z))])) (fun R hR => ?_) fun r hr => ?_
    · by_cases hlt : i < ns.length
      · have hat : atP (ns.map P.int) (i : Int) = some (.int ns[i]) := by
          rw [at_nat (by simpa using hlt)]
          simp [hlt]
        have hpw : opSem .pow [.imm (.int 10), .imm (.int 18)] = some (.imm (.int 1000000000000000000)) := by
          simp only [opSem, int2]
          rw [if_pos (by decide)]
          rfl
        simp -implicitDefEqProofs [atC, ixC, hlt, hat]
        by_cases hneg : ns[i] < 0
        · simp -implicitDefEqProofs [hneg, hpw]
          by_cases hbig : (1000000000000000000 : Int) ≤ -1 - ns[i]
          · simp -implicitDefEqProofs [hbig]
            obtain ⟨z, hz⟩ := Int.eq_ofNat_of_zero_le (show 0 ≤ -1 - ns[i] by omega)
            exact hR _ (.inl ⟨z, i + 1, by omega, by rw [hz] <;> rfl⟩)
          · simp -implicitDefEqProofs [hbig]
            exact hR _ (.inr ⟨_, i + 1, by omega, rfl⟩)
        · simp -implicitDefEqProofs [hneg, hpw]
          by_cases hbig : (1000000000000000000 : Int) ≤ ns[i]
          · simp -implicitDefEqProofs [hbig]
            obtain ⟨z, hz⟩ := Int.eq_ofNat_of_zero_le (show 0 ≤ ns[i] by omega)
            exact hR _ (.inl ⟨z, i + 1, by omega, by rw [hz] <;> rfl⟩)
          · simp -implicitDefEqProofs [hbig]
            exact hR _ (.inr ⟨_, i + 1, by omega, rfl⟩)
      · simp -implicitDefEqProofs [atC, ixC, hlt]
        exact hR _ (.inr ⟨_, i, hi, rfl⟩)
    rcases hr with ⟨z, j, hj, rfl⟩ | ⟨z, j, hj, rfl⟩
    · simp -implicitDefEqProofs [asgTs, asgT]
      exact hR _ ⟨_, _, rfl, ns, j, pool, t + 1, rfl, hj⟩
    refine wp_seq (fun r => ∃ z : Int, r = (.nx, [some (.lst [.lst (ns.map P.int), .int j, .int pool, .int (t + 1), .int 20]), some (.imm (.int z))])) (fun R hR => ?_) fun r hr => ?_
    · by_cases he : ns = []
      · simp -implicitDefEqProofs [atC, ixC, he]
        exact hR _ ⟨_, by rw [he] <;> rfl⟩
      · have hm : ns.map P.int ≠ [] := by simpa using he
        have hl : 0 < ns.length := List.length_pos_iff.mpr he
        have hat : atP (ns.map P.int) (-1) = some (.int (ns[ns.length - 1]'(by omega))) := by
          rw [at_last hm]
          simp [show ns.length - 1 < ns.length by omega]
        by_cases hge : ns.length ≤ j
        · simp -implicitDefEqProofs [atC, ixC, he, hge, hat, so_mod]
          exact hR _ ⟨_, rfl⟩
        · simp -implicitDefEqProofs [atC, ixC, he, hge]
          exact hR _ ⟨_, rfl⟩
    obtain ⟨z, rfl⟩ := hr
    simp -implicitDefEqProofs [atC, ixC, so_mul, mulK, mulM, so_mod, so_fdiv, asgTs, asgT]
    obtain ⟨n, hn⟩ := fill_end ((z * 48271 + (↑t + 1) * 69621).fmod 2147483647) t
    exact hR _ ⟨_, n, by rw [hn] <;> rfl, ns, j, pool, t + 1, rfl, hj⟩
  obtain ⟨r, e, xs', n, rfl, hw⟩ := key
  exact ⟨xs', n, e, hw⟩
theorem c_take (k : Nat) (xs : List P) (m : Nat) (h : WC xs) (hm : 0 < m) (hm2 : m < 1000000) : ∃ (xs' : List P) (d : Nat), callF prog G (k + 2) 15 [.lst xs, .imm (.int m)] = some (.imm (.int d), [.lst xs', .imm (.int m)]) ∧ WC xs' ∧ d < m := by
  obtain ⟨ns, i, pool, t, rfl, hi⟩ := h
  have key : ∃ r, callF prog G (k + 1 + 1) 15 [.lst [.lst (ns.map P.int), .int i, .int pool, .int t, .int 20], .imm (.int m)] = some r ∧ ∃ (xs' : List P) (d : Nat), r = (.imm (.int d), [.lst xs', .imm (.int m)]) ∧ WC xs' ∧ d < m := by
    refine wp_all fun R hR => call_wp (fn := f__law_take) rfl rfl ?_
    simp only [f__law_take, b__law_take]
    refine wp_seq (fun r => ∃ (ns : List Int) (i pool t : Nat), i ≤ ns.length ∧ r = (.nx, [some (.lst [.lst (ns.map P.int), .int i, .int pool, .int t, .int 20]), some (.imm (.int m)), none])) (fun R hR => ?_) fun r hr => ?_
    · by_cases hlt : pool < m
      · obtain ⟨xs', n, e, ns', i', pool', t', rfl, hi'⟩ := c_fill k [.lst (ns.map P.int), .int i, .int pool, .int t, .int 20] ⟨ns, i, pool, t, rfl, hi⟩
        simp -implicitDefEqProofs [atC, ixC, hlt, e]
        exact hR _ ⟨ns', i', n, t', hi', rfl⟩
      · simp -implicitDefEqProofs [atC, ixC, hlt]
        exact hR _ ⟨ns, i, pool, t, hi, rfl⟩
    obtain ⟨ns, i, pool, t, hi, rfl⟩ := hr
    have h0 : ((m : Nat) : Int) ≠ 0 := by omega
    have e1 : ((pool : Nat) : Int).fmod (m : Int) = ((pool % m : Nat) : Int) := by
      rw [Int.fmod_eq_emod_of_nonneg _ (by omega)]
      exact (Int.natCast_emod pool m).symm
    have e2 : ((pool : Nat) : Int).fdiv (m : Int) = ((pool / m : Nat) : Int) := by
      rw [Int.fdiv_eq_ediv_of_nonneg _ (by omega)]
      exact (Int.natCast_ediv pool m).symm
    have h1 : ((m : Nat) : Int) ≠ 0 ∧ ((m : Nat) : Int).natAbs < 1073741824 := ⟨h0, by omega⟩
    simp -implicitDefEqProofs [atC, ixC, so_mod h0, so_fdiv h1, asgTs, asgT]
    exact hR _ ⟨_, pool % m, by rw [e1], ⟨ns, i, pool / m, t, by rw [e2], hi⟩, Nat.mod_lt _ hm⟩
  obtain ⟨r, e, xs', d, rfl, hw⟩ := key
  exact ⟨xs', d, e, hw⟩
theorem c_is_int (k : Nat) (v : P) : callF prog G (k + 1) 16 [.imm v] = some (.imm (.bl (isI v)), [.imm v]) := by
  refine wp_is (call_wp (fn := f__law_is_int) rfl rfl ?_)
  cases v <;> simp -implicitDefEqProofs [f__law_is_int, b__law_is_int, asgTs, asgT, isTy, isI]
theorem sp_flat (k n : Nat) (xs : List P) (v : P) (hw : WC xs) (hn : n ≤ 900) (hn8 : 8 ≤ n) (ht : ∀ ps, v ≠ .tup ps) (hs : ∀ s, v = .str s → s.length ≤ n) : ∃ xs' r, callF prog G (k + 3) 20 [.lst xs, .imm v] = some (.imm r, [.lst xs', .imm v]) ∧ WC xs' ∧ Sm (n + 1) 0 r := by
  have key : ∃ r, callF prog G (k + 2 + 1) 20 [.lst xs, .imm v] = some r ∧ ∃ xs' r', r = (.imm r', [.lst xs', .imm v]) ∧ WC xs' ∧ Sm (n + 1) 0 r' := by
    refine wp_all fun R hR => call_wp (fn := f__law_spoilt) rfl rfl ?_
    simp only [f__law_spoilt, b__law_spoilt]
    by_cases hstr : ∃ s, v = .str s
    · obtain ⟨s, rfl⟩ := hstr
      have hsl : s.length ≤ n := hs s rfl
      have hl : s.length ≤ line := le_lineN (by omega)
      have h10 : (10 : Nat) ≤ line := le_lineN (by omega)
      have hadd : opSem .add [.imm (.str s), .imm (.str [97])] = some (.imm (.str (s ++ [97]))) := so_adds (le_lineN (by simp; omega))
      obtain ⟨xs', dd, he, hw', hd⟩ := c_take k xs 10 hw (by omega) (by omega)
      have he : callF prog G (k + 2) 15 [.lst xs, .imm (.int 10)] = some (.imm (.int dd), [.lst xs', .imm (.int 10)]) := he
      simp -implicitDefEqProofs [isTy, hadd, so_slcS hl, h10, he]
      refine wp_at (by simpa using hd) fun r hr => ?_
      simp -implicitDefEqProofs [asgTs, asgT]
      refine hR _ ⟨xs', r, rfl, hw', ?_⟩
      have hcl := cut_len s (some 1) none
      simp only [List.mem_cons, List.not_mem_nil, or_false] at hr
      rcases hr with rfl | rfl | rfl | rfl | rfl | rfl | rfl | rfl | rfl | rfl <;> (refine sm_str ?_; first | (simp; done) | (simp; omega) | omega)
    · have hI : isTy v .str = false ∧ isTy v .tuple = false := by
        cases v <;> first | exact ⟨rfl, rfl⟩ | exact absurd ⟨_, rfl⟩ hstr | exact absurd rfl (ht _)
      have h7 : (7 : Nat) ≤ line := le_lineN (by omega)
      obtain ⟨xs', dd, he, hw', hd⟩ := c_take k xs 7 hw (by omega) (by omega)
      have he : callF prog G (k + 2) 15 [.lst xs, .imm (.int 7)] = some (.imm (.int dd), [.lst xs', .imm (.int 7)]) := he
      simp -implicitDefEqProofs [hI.1, hI.2, h7, he]
      refine wp_at (by simpa using hd) fun r hr => ?_
      simp -implicitDefEqProofs [asgTs, asgT]
      refine hR _ ⟨xs', r, rfl, hw', ?_⟩
      simp only [List.mem_cons, List.not_mem_nil, or_false] at hr
      rcases hr with rfl | rfl | rfl | rfl | rfl | rfl | rfl <;> trivial
  obtain ⟨r, e, xs', r', rfl, h1, h2⟩ := key
  exact ⟨xs', r', e, h1, h2⟩
theorem c_spoilt : ∀ (d k n : Nat) (xs : List P) (v : P), WC xs → n ≤ 900 → 8 ≤ n → Sm n d v → ∃ xs' r, callF prog G (k + 3 + d) 20 [.lst xs, .imm v] = some (.imm r, [.lst xs', .imm v]) ∧ WC xs' ∧ Sm (n + 1) (d + 2) r := by
  intro d
  induction d with
  | zero =>
    intro k n xs v hw hn hn8 hs
    obtain ⟨xs', r, h1, h2, h3⟩ := sp_flat k n xs v hw hn hn8 (fun ps e => by subst e; exact hs) (fun s e => by subst e; exact hs)
    exact ⟨xs', r, h1, h2, h3.ups 2⟩
  | succ d ih =>
    intro k n xs v hw hn hn8 hs
    by_cases ht : ∃ ps, v = .tup ps
    · obtain ⟨ps, rfl⟩ := ht
      obtain ⟨hl, hp⟩ := hs
      have hp1 : ∀ p ∈ ps, Sm (n + 1) (d + 2) p := fun p h => ((hp p h).mono (Nat.le_succ n)).ups 2
      have key : ∃ r, callF prog G (k + 3 + d + 1) 20 [.lst xs, .imm (.tup ps)] = some r ∧ ∃ xs' r', r = (.imm r', [.lst xs', .imm (.tup ps)]) ∧ WC xs' ∧ Sm (n + 1) (d + 1 + 2) r' := by
        refine wp_all fun R hR => call_wp (fn := f__law_spoilt) rfl rfl ?_
        simp only [f__law_spoilt, b__law_spoilt]
        refine wp_seq (fun r => r = (.nx, [some (.lst xs), some (.imm (.tup ps)), none])) (fun R hR => ?_) fun r hr => ?_
        · simp -implicitDefEqProofs [isTy]
          exact hR _ rfl
        subst hr
        refine wp_seq (fun r => r = (.nx, [some (.lst xs), some (.imm (.tup ps)), none])) (fun R hR => ?_) fun r hr => ?_
        · simp -implicitDefEqProofs [isTy]
          exact hR _ rfl
        subst hr
        have h8 : (8 : Nat) ≤ line := le_lineN (by omega)
        have h2 : (2 : Nat) ≤ line := le_lineN (by omega)
        have h1 : (1 : Nat) ≤ line := le_lineN (by omega)
        have hc1 := cut_len ps (some 1) none
        have hc2 := cut_len ps none (some (-1))
        have hc3 := cut_len ps (some (-1)) none
        have hc4 : (cutP ps (some (-1)) none).length ≤ 1 := by
          unfold cutP
          rw [List.length_take, List.length_drop]
          show min (ps.length - sIxP ps.length 0 (some (-1))) _ ≤ 1
          unfold sIxP
          simp only
          rw [if_pos (by decide)]
          omega
        have ha1 : opSem .add [.imm (.tup ps), .imm (.tup (cutP ps (some (-1)) none))] = some (.imm (.tup (ps ++ cutP ps (some (-1)) none))) := so_addt (le_lineN (by omega))
        have ha2 : opSem .add [.imm (.tup ps), .imm (.tup [.tup [.int 0, .int 0]])] = some (.imm (.tup (ps ++ [.tup [.int 0, .int 0]]))) := so_addt (le_lineN (by simp; omega))
        have hli : opSem .list [.imm (.tup ps)] = some (.lst ps) := so_lisT (le_lineN (by omega))
        have fin : ∀ r, r ∈ [P.lst [], P.lst []] ∨ r ∈ [P.tup (cutP ps (some 1) none), .tup (cutP ps none (some (-1))), .tup (ps ++ cutP ps (some (-1)) none), .tup ps.reverse, .lst ps, .tup (ps ++ [.tup [.int 0, .int 0]]), .tup [], .tup [.int 1, .int 0]] → Sm (n + 1) (d + 1 + 2) r := fun r hr => by
          simp only [List.mem_cons, List.not_mem_nil, or_false] at hr
          have z : ∀ p ∈ [P.int 1, P.int 0], Sm (n + 1) (d + 2) p := fun p h => by
            simp only [List.mem_cons, List.not_mem_nil, or_false] at h
            rcases h with rfl | rfl <;> exact sm_int
          have z2 : Sm (n + 1) (d + 2) (.tup [.int 0, .int 0]) := sm_tup (by simp; omega) fun p h => by
            simp only [List.mem_cons, List.not_mem_nil, or_false] at h
            rcases h with rfl | rfl <;> exact sm_int
          rcases hr with (rfl | rfl) | rfl | rfl | rfl | rfl | rfl | rfl | rfl | rfl
          · exact sm_lst (by simp) fun p h => nomatch h
          · exact sm_lst (by simp) fun p h => nomatch h
          · exact sm_tup (by omega) fun p h => hp1 p (cut_mem h)
          · exact sm_tup (by omega) fun p h => hp1 p (cut_mem h)
          · exact sm_tup (by rw [List.length_append]; omega) fun p h => (List.mem_append.mp h).elim (hp1 p) fun h => hp1 p (cut_mem h)
          · exact sm_tup (by rw [List.length_reverse]; omega) fun p h => hp1 p (List.mem_reverse.mp h)
          · exact sm_lst (by omega) hp1
          · exact sm_tup (by simp; omega) fun p h => (List.mem_append.mp h).elim (hp1 p) fun h => by rw [List.mem_singleton.mp h]; exact z2
          · exact sm_tup (by simp) fun p h => nomatch h
          · exact sm_tup (by simp; omega) z
        refine wp_seq (fun r => (∃ xs' r', WC xs' ∧ Sm (n + 1) (d + 1 + 2) r' ∧ r = (.rt (.imm r'), [some (.lst xs'), some (.imm (.tup ps)), none])) ∨ ∃ xs', WC xs' ∧ ps ≠ [] ∧ r = (.nx, [some (.lst xs'), some (.imm (.tup ps)), none])) (fun R hR => ?_) fun r hr => ?_
        · by_cases he : ps = []
          · obtain ⟨xs', dd, e8, hw', hd⟩ := c_take (k + d + 1) xs 8 hw (by omega) (by omega)
            have e8 : callF prog G (k + 3 + d) 15 [.lst xs, .imm (.int 8)] = some (.imm (.int dd), [.lst xs', .imm (.int 8)]) := by
              rw [show k + 3 + d = k + d + 1 + 2 by omega]; exact e8
            subst he
            simp -implicitDefEqProofs only [List.nil_append] at ha1 ha2
            simp -implicitDefEqProofs [ha1, ha2, hli, h8, h2, h1, e8]
            refine wp_at (by simpa using hd) fun r hr => ?_
            try simp -implicitDefEqProofs
            exact hR _ (.inl ⟨xs', r, hw', fin r (.inr (by simpa using hr)), rfl⟩)
          · obtain ⟨ys, d5, e5, hw5, hd5⟩ := c_take (k + d + 1) xs 5 hw (by omega) (by omega)
            have e5 : callF prog G (k + 3 + d) 15 [.lst xs, .imm (.int 5)] = some (.imm (.int d5), [.lst ys, .imm (.int 5)]) := by
              rw [show k + 3 + d = k + d + 1 + 2 by omega]; exact e5
            obtain ⟨xs', dd, e8, hw', hd⟩ := c_take (k + d + 1) ys 8 hw5 (by omega) (by omega)
            have e8 : callF prog G (k + 3 + d) 15 [.lst ys, .imm (.int 8)] = some (.imm (.int dd), [.lst xs', .imm (.int 8)]) := by
              rw [show k + 3 + d = k + d + 1 + 2 by omega]; exact e8
            by_cases h0 : d5 = 0
            · subst h0
              simp -implicitDefEqProofs [he, ha1, ha2, hli, h8, h2, h1, e5, e8]
              refine wp_at (by simpa using hd) fun r hr => ?_
              try simp -implicitDefEqProofs
              exact hR _ (.inl ⟨xs', r, hw', fin r (.inr hr), rfl⟩)
            · simp -implicitDefEqProofs [he, h0, e5]
              exact hR _ (.inr ⟨ys, hw5, he, rfl⟩)
        rcases hr with ⟨xs', r', hw', hs', rfl⟩ | ⟨ys, hw', he, rfl⟩
        · simp -implicitDefEqProofs [asgTs, asgT]
          exact hR _ ⟨xs', r', rfl, hw', hs'⟩
        have hlp : 0 < ps.length := List.length_pos_iff.mpr he
        obtain ⟨zs, kk, ek, hwk, hdk⟩ := c_take (k + d + 1) ys ps.length hw' hlp (by omega)
        have ek : callF prog G (k + 3 + d) 15 [.lst ys, .imm (.int ps.length)] = some (.imm (.int kk), [.lst zs, .imm (.int ps.length)]) := by
          rw [show k + 3 + d = k + d + 1 + 2 by omega]; exact ek
        have hgk : atP ps (kk : Int) = some ps[kk] := by rw [at_nat hdk, List.getElem?_eq_getElem hdk]
        obtain ⟨us, r1, e17, hwu, hs1⟩ := ih k n zs ps[kk] hwk hn hn8 (hp _ (List.getElem_mem hdk))
        have hcA := cut_len ps none (some (kk : Int))
        have hcB := cut_len ps (some ((kk : Int) + 1)) none
        have hA : opSem .add [.imm (.tup (cutP ps none (some (kk : Int)))), .imm (.tup [r1])] = some (.imm (.tup (cutP ps none (some (kk : Int)) ++ [r1]))) := so_addt (le_lineN (by simp; omega))
        have hB : opSem .add [.imm (.tup (cutP ps none (some (kk : Int)) ++ [r1])), .imm (.tup (cutP ps (some ((kk : Int) + 1)) none))] = some (.imm (.tup (cutP ps none (some (kk : Int)) ++ [r1] ++ cutP ps (some ((kk : Int) + 1)) none))) := so_addt (le_lineN (by simp; omega))
        have hlen : (cutP ps none (some (kk : Int)) ++ [r1] ++ cutP ps (some ((kk : Int) + 1)) none).length ≤ n + 1 := by
          have e1 : cutP ps none (some (kk : Int)) = ps.take kk := cut_0n ps kk
          have e2 : cutP ps (some ((kk : Int) + 1)) none = ps.drop (kk + 1) := cut_n0 ps (kk + 1)
          rw [e1, e2]
          simp
          omega
        simp -implicitDefEqProofs only [List.append_assoc] at hB hlen
        simp -implicitDefEqProofs [ek, hgk, e17, hA, hB, h1, asgTs, asgT]
        refine hR _ ⟨us, _, rfl, hwu, sm_tup hlen fun p h => ?_⟩
        rcases List.mem_append.mp h with h | h
        · exact hp1 p (cut_mem h)
        · rcases List.mem_cons.mp h with h | h
          · rw [h]; exact hs1
          · exact hp1 p (cut_mem h)
      obtain ⟨r, e, xs', r', rfl, h1, h2⟩ := key
      exact ⟨xs', r', e, h1, h2⟩
    · obtain ⟨xs', r, h1, h2, h3⟩ := sp_flat (k + (d + 1)) n xs v hw hn hn8 (fun ps e => ht ⟨ps, e⟩) (fun s e => by subst e; exact hs)
      refine ⟨xs', r, ?_, h2, ?_⟩
      · rw [show k + 3 + (d + 1) = k + (d + 1) + 3 by omega]; exact h1
      · have := h3.ups (d + 1 + 2)
        rwa [Nat.zero_add] at this
theorem c_bent (k n d t : Nat) (xs : List P) (v : P) (hw : WC xs) (hn : n ≤ 800) (hn8 : 8 ≤ n) (hd : d ≤ 10) (hs : Sm n d v) : ∃ xs' r, callF prog G (k + 50) 21 [.lst xs, .imm v, .imm (.int t)] = some (.imm r, [.lst xs', .imm v, .imm (.int t)]) ∧ WC xs' ∧ Sm (n + 2) (d + 4) r := by
  have key : ∃ r, callF prog G (k + 49 + 1) 21 [.lst xs, .imm v, .imm (.int t)] = some r ∧ ∃ xs' r', r = (.imm r', [.lst xs', .imm v, .imm (.int t)]) ∧ WC xs' ∧ Sm (n + 2) (d + 4) r' := by
    refine wp_all fun R hR => call_wp (fn := f__law_bent) rfl rfl ?_
    simp only [f__law_bent, b__law_bent]
    obtain ⟨ys, d2, e2, hw2, hd2⟩ := c_take (k + 47) xs 2 hw (by omega) (by omega)
    have e2 : callF prog G (k + 49) 15 [.lst xs, .imm (.int 2)] = some (.imm (.int d2), [.lst ys, .imm (.int 2)]) := e2
    obtain ⟨m, hm, hm2⟩ : ∃ m : Nat, bI (decide (0 < t)) * (1 + (d2 : Int)) = (m : Int) ∧ m ≤ 2 := by
      by_cases h : 0 < t
      · refine ⟨1 + d2, ?_, by omega⟩
        rw [decide_eq_true h]
        show 1 * (1 + (d2 : Int)) = _
        omega
      · refine ⟨0, ?_, by omega⟩
        rw [decide_eq_false h]
        show 0 * (1 + (d2 : Int)) = _
        omega
    have hmul : opSem .mul [.imm (.int (bI (decide (0 < t)))), .imm (.int (1 + (d2 : Int)))] = some (.imm (.int m)) := by
      rw [so_mul (mul_l (by unfold bI; split <;> decide)), hm]
    simp -implicitDefEqProofs [e2, hmul, it_rng1 (show m ≤ 1000000 by omega)]
    refine wp_for (fun i e => ∃ (zs : List P) (u : P) (x : Option D), WC zs ∧ Sm (n + i) (d + 2 * i) u ∧ e = [some (.lst zs), some (.imm u), some (.imm (.int t)), x]) ⟨ys, v, none, hw2, hs, rfl⟩ (fun i p e hp hi => ?_) (fun e hi => ?_)
    · obtain ⟨zs, u, x, hz, hu, rfl⟩ := hi
      obtain ⟨hib, rfl⟩ := rng_get hp
      obtain ⟨us, r, e17, hwu, hsr⟩ := c_spoilt (d + 2 * i) (k + 46 - (d + 2 * i)) (n + i) zs u hz (by omega) (by omega) hu
      have e17 : callF prog G (k + 49) 20 [.lst zs, .imm u] = some (.imm r, [.lst us, .imm u]) := by
        rw [show k + 49 = k + 46 - (d + 2 * i) + 3 + (d + 2 * i) by omega]; exact e17
      simp -implicitDefEqProofs [stepFf, e17]
      exact ⟨hwu, hsr⟩
    · obtain ⟨zs, u, x, hz, hu, rfl⟩ := hi
      rw [List.length_map, List.length_range] at hu
      simp -implicitDefEqProofs [asgTs, asgT]
      refine hR _ ⟨zs, u, rfl, hz, ?_⟩
      have := (hu.mono (show n + m ≤ n + 2 by omega)).ups (4 - 2 * m)
      rwa [show d + 2 * m + (4 - 2 * m) = d + 4 by omega] at this
  obtain ⟨r, e, xs', r', rfl, h1, h2⟩ := key
  exact ⟨xs', r', e, h1, h2⟩
theorem al_flat (k : Nat) (v : P) (h : AL 0 v) : callF prog G (k + 1) 17 [.imm v, .imm v] = some (.imm (.bl true), [.imm v, .imm v]) := by
  refine wp_is (call_wp (fn := f__law_alike) rfl rfl ?_)
  cases v <;> first
    | exact h.elim
    | simp -implicitDefEqProofs [f__law_alike, b__law_alike, isTy, so_neB, asgTs, asgT]
theorem c_alike : ∀ (d k : Nat) (v : P), AL d v → callF prog G (k + 1 + d) 17 [.imm v, .imm v] = some (.imm (.bl true), [.imm v, .imm v]) := by
  intro d
  induction d with
  | zero => exact fun k v h => al_flat k v h
  | succ d ih =>
    intro k v h
    by_cases ht : ∃ ps, v = .tup ps
    · obtain ⟨ps, rfl⟩ := ht
      obtain ⟨hl, hp⟩ := h
      show callF prog G (k + 1 + d + 1) 17 _ = _
      refine wp_is (call_wp (fn := f__law_alike) rfl rfl ?_)
      simp -implicitDefEqProofs [f__law_alike, b__law_alike, isTy, it_rng1 (show ps.length ≤ 1000000 by omega)]
      refine wp_comp (fun i acc e => acc = (List.replicate i true).map P.bl ∧ e = [some (.imm (.tup ps)), some (.imm (.tup ps)), none]) ⟨rfl, rfl⟩ (fun i p acc e hp2 hi => ?_) (fun acc e hi => ?_)
      · obtain ⟨rfl, rfl⟩ := hi
        obtain ⟨hil, rfl⟩ := rng_get hp2
        have hat : atP ps (i : Int) = some ps[i] := by rw [at_nat hil, List.getElem?_eq_getElem hil]
        have hih := ih k ps[i] (hp _ (List.getElem_mem hil))
        have hlen : ((List.replicate i true).map P.bl).length < line := lt_lineN (by simp; omega)
        simp only [List.length_map, List.length_replicate] at hlen
        simp -implicitDefEqProofs [-List.map_replicate, stepCc, hat, hih, hlen]
        rw [List.replicate_succ', List.map_append] <;> rfl
      · obtain ⟨rfl, rfl⟩ := hi
        simp -implicitDefEqProofs [-List.map_replicate, so_all, all_true, asgTs, asgT]
    · have h0 : AL 0 v := by cases v <;> first | trivial | exact h.elim | exact absurd ⟨_, rfl⟩ ht
      have := al_flat (k + (d + 1)) v h0
      rwa [show k + (d + 1) + 1 = k + 1 + (d + 1) by omega] at this
theorem c_word (k : Nat) (xs : List P) (A : List Nat) (m : Nat) (hw : WC xs) (hA : 0 < A.length) (hA2 : A.length ≤ 500) (hm : m ≤ 500) : ∃ (xs' : List P) (w : List Nat), callF prog G (k + 3) 19 [.lst xs, .imm (.str A), .imm (.int m)] = some (.imm (.str w), [.lst xs', .imm (.str A), .imm (.int m)]) ∧ WC xs' ∧ w.length ≤ m ∧ ∀ c ∈ w, c ∈ A := by
  have key : ∃ r, callF prog G (k + 2 + 1) 19 [.lst xs, .imm (.str A), .imm (.int m)] = some r ∧ ∃ (xs' : List P) (w : List Nat), r = (.imm (.str w), [.lst xs', .imm (.str A), .imm (.int m)]) ∧ WC xs' ∧ w.length ≤ m ∧ ∀ c ∈ w, c ∈ A := by
    refine wp_all fun R hR => call_wp (fn := f__law_word) rfl rfl ?_
    have hAl : A.length ≤ line := le_lineN (by omega)
    obtain ⟨ys, n, e1, hy, hn⟩ := c_take k xs (m + 1) hw (by omega) (by omega)
    have e1 : callF prog G (k + 2) 15 [.lst xs, .imm (.int ((m : Int) + 1))] = some (.imm (.int n), [.lst ys, .imm (.int ((m : Int) + 1))]) := e1
    simp -implicitDefEqProofs [f__law_word, b__law_word, rcvOk, e1, it_rng1 (show n ≤ 1000000 by omega)]
    refine wp_comp (fun i acc e => ∃ (zs : List P) (w : List Nat), WC zs ∧ w.length = i ∧ (∀ c ∈ w, c ∈ A) ∧ acc = (w.map fun c => [c]).map P.str ∧ e = [some (.lst zs), some (.imm (.str A)), some (.imm (.int m)), none]) ⟨ys, [], hy, rfl, fun c h => (nomatch h), rfl, rfl⟩ (fun i p acc e hp hi => ?_) (fun acc e hi => ?_)
    · obtain ⟨zs, w, hz, hwl, hwm, rfl, rfl⟩ := hi
      obtain ⟨hin, rfl⟩ := rng_get hp
      obtain ⟨us, d, e2, hu, hd⟩ := c_take k zs A.length hz hA (by omega)
      have e2 : callF prog G (k + 2) 15 [.lst zs, .imm (.int A.length)] = some (.imm (.int d), [.lst us, .imm (.int A.length)]) := e2
      have hlen : ((w.map fun c => [c]).map P.str).length < line := lt_lineN (by simp; omega)
      simp only [List.length_map] at hlen
      have hat : atP A (d : Int) = some A[d] := by rw [at_nat hd, List.getElem?_eq_getElem hd]
      simp -implicitDefEqProofs [-List.map_map, stepCc, so_lenS hAl, e2, so_idxS hAl, hat, hlen]
      refine ⟨us, hu, w ++ [A[d]], by simp [hwl], fun c h => ?_, by simp, rfl⟩
      rcases List.mem_append.mp h with h | h
      · exact hwm c h
      · rw [List.mem_singleton.mp h]; exact List.getElem_mem hd
    · obtain ⟨zs, w, hz, hwl, hwm, rfl, rfl⟩ := hi
      rw [List.length_map, List.length_range] at hwl
      have hs : (w.map fun c => [c]).flatten = w := by
        clear hwl hwm
        induction w with
        | nil => rfl
        | cons c w ih => rw [List.map_cons, List.flatten_cons, ih] <;> rfl
      have hj : opSem .join [.imm (.str []), .lst ((w.map fun c => [c]).map P.str)] = some (.imm (.str w)) := by
        rw [so_join _ ?_, hs]
        have : (((w.map fun c => [c]).map List.length)).sum = w.length := by rw [← List.length_flatten, hs]
        rw [this]
        exact le_lineN (by omega)
      simp -implicitDefEqProofs [-List.map_map, hj, asgTs, asgT]
      exact hR _ ⟨zs, w, rfl, hz, by omega, hwm⟩
  obtain ⟨r, e, xs', w, rfl, h1, h2, h3⟩ := key
  exact ⟨xs', w, e, h1, h2, h3⟩
theorem c_words (k : Nat) (A : List Nat) (n : Nat) (hA : 0 < A.length) (hA2 : A.length ≤ 100) (hb : A.length ^ n ≤ 10000) (hn : n ≤ 1000) : callF prog G (k + 1) 18 [.imm (.str A), .imm (.int (n : Int))] = some (wordsD n ((allW A n).map P.str), [.imm (.str A), .imm (.int (n : Int))]) := by
  refine wp_is (call_wp (fn := f__law_words) rfl rfl ?_)
  simp only [f__law_words, b__law_words]
  (refine wp_stepX (by conv => lhs; simp -implicitDefEqProofs []) ?_; first | refine wpx_nx ?_ | refine wpx_rt ?_ | skip)
  have hAl : A.length ≤ line := le_lineN (by omega)
  refine wp_fors (fun i e => ∃ x3 x4 x5, e = [some (.imm (.str A)), some (.imm (.int (n : Int))), some (wordsD i ((allW A i).map P.str)), x3, x4, x5, none]) (ps := (List.range n).map fun k : Nat => P.int (k : Int)) (os := [.tmp (.imm (.int n))]) (by simp -implicitDefEqProofs [itm, it_rng1 (show n ≤ 1000000 by omega), wordsD, allW]) (by simp) ⟨none, none, none, rfl⟩ (fun i p e hp hi => ?_) (fun e hi => ?_)
  · obtain ⟨x3, x4, x5, rfl⟩ := hi
    obtain ⟨hin, rfl⟩ := rng_get hp
    refine wp_bnd (by conv => lhs; simp -implicitDefEqProofs []) ?_
    (refine wp_stepX (by conv => lhs; simp -implicitDefEqProofs []) ?_; first | refine wpx_nx ?_ | refine wpx_rt ?_ | skip)
    have hle : A.length ^ (i + 1) ≤ 10000 := Nat.le_trans (Nat.pow_le_pow_right hA hin) hb
    have hl1 := allW_len A i
    have hl2 := allW_len A (i + 1)
    have hw : ∀ w ∈ allW A i, w.length ≤ 1000 := fun w hw => by
      have := (allW_mem.mp hw).1
      omega
    have hsucc : allW A (i + 1) = (allW A i).flatMap fun w => A.map fun c => w ++ [c] := rfl
    have hpre : ∀ j, ((allW A i).take j).length * A.length ≤ 10000 := fun j => by
      rw [Nat.pow_succ] at hle
      refine Nat.le_trans (Nat.mul_le_mul_right _ ?_) hle
      rw [List.length_take, hl1]
      omega
    generalize allW A i = F at *
    have hit : itm (callF prog G k) G .seq [.nm 2] [some (.imm (.str A)), some (.imm (.int (n : Int))), some (wordsD i (F.map P.str)), some (.imm (.int (i : Int))), some (.lst []), x5, none] = some (F.map P.str, (if i = 0 then [.slot 2] else [.tmp (wordsD i (F.map P.str))]), [some (.imm (.str A)), some (.imm (.int (n : Int))), some (wordsD i (F.map P.str)), some (.imm (.int (i : Int))), some (.lst []), x5, none]) := by
      by_cases h0 : i = 0
      · simp -implicitDefEqProofs [itm, wordsD, h0]
      · simp -implicitDefEqProofs [itm, wordsD, h0]
    refine wp_fors (fun j e => ∃ x5, e = [some (.imm (.str A)), some (.imm (.int (n : Int))), some (wordsD i (F.map P.str)), some (.imm (.int (i : Int))), some (.lst (((F.take j).flatMap fun w => A.map fun c => w ++ [c]).map P.str)), x5, none]) hit (by split <;> simp [asgTs, asgT]) ⟨x5, by simp⟩ (fun j p e hp hi => ?_) (fun e hi => ?_)
    · obtain ⟨x5, rfl⟩ := hi
      obtain ⟨w, hw2, rfl⟩ : ∃ w, F[j]? = some w ∧ p = .str w := by
        rw [List.getElem?_map] at hp
        cases q : F[j]? with
        | none => rw [q] at hp; cases hp
        | some c => rw [q] at hp; cases hp; exact ⟨c, rfl, rfl⟩
      have hwl := hw w (List.mem_of_getElem? hw2)
      have hta : F.take (j + 1) = F.take j ++ [w] := by rw [List.take_add_one, hw2] <;> rfl
      have hp1 := hpre (j + 1)
      rw [hta] at hp1
      have hst : (((F.take (j + 1)).flatMap fun w => A.map fun c => w ++ [c]).map P.str) = ((F.take j).flatMap fun w => A.map fun c => w ++ [c]).map P.str ++ A.map fun c => P.str (w ++ [c]) := by
        rw [hta, List.flatMap_append, List.map_append, List.flatMap_singleton, List.map_map] <;> rfl
      have hlen : (((F.take j).flatMap fun w => A.map fun c => w ++ [c]).map P.str).length + (A.map fun c => P.str (w ++ [c])).length ≤ 10000 := by
        rw [List.length_map, List.length_flatMap, List.length_map]
        simp only [List.length_map]
        rw [List.map_const', List.sum_replicate_nat]
        rw [List.length_append, List.length_singleton, Nat.add_mul, Nat.one_mul] at hp1
        omega
      have hadd := so_addl (ps := ((F.take j).flatMap fun w => A.map fun c => w ++ [c]).map P.str) (qs := A.map fun c => P.str (w ++ [c])) (le_lineN (by omega))
      rw [← hst] at hadd
      rw [hst]
      refine wp_bnd (by conv => lhs; simp -implicitDefEqProofs []) ?_
      rw [← hst]
      generalize ((F.take j).flatMap fun w => A.map fun c => w ++ [c]).map P.str = X at *
      generalize ((F.take (j + 1)).flatMap fun w => A.map fun c => w ++ [c]).map P.str = Y at *
      generalize wordsD i (F.map P.str) = W at *
      refine wp_stepX (x := some (.nx, [some (.imm (.str A)), some (.imm (.int (n : Int))), some W, some (.imm (.int (i : Int))), some (.lst Y), some (.imm (.str w)), none])) (wp_is ?_) (wpx_nx ?_)
      · simp -implicitDefEqProofs
        refine wp_eq (comp_all (fun c : Nat => P.str [c]) (fun c => P.str (w ++ [c])) hAl fun c hc acc hacc => ?_) ?_
        · have e3 : opSem .add [.imm (.str w), .imm (.str [c])] = some (.imm (.str (w ++ [c]))) := so_adds (le_lineN (by simp; omega))
          generalize w ++ [c] = z at *
          simp -implicitDefEqProofs [stepCc, e3, hacc]
        · generalize (A.map fun c => P.str (w ++ [c])) = Z at *
          simp -implicitDefEqProofs [hadd]
      · refine wp_end ⟨?_, _, rfl⟩
        split <;> simp
    · obtain ⟨x5, rfl⟩ := hi
      rw [List.length_map, List.take_length, ← hsucc]
      generalize (allW A (i + 1)).map P.str = Y at *
      generalize wordsD i (F.map P.str) = W at *
      have : wordsD (i + 1) Y = .imm (.lst Y) := by unfold wordsD; simp
      (refine wp_stepX (by conv => lhs; simp -implicitDefEqProofs []) ?_; first | refine wpx_nx ?_ | refine wpx_rt ?_ | skip)
      exact wp_end ⟨by simp, _, _, _, by rw [this]⟩
  · obtain ⟨x3, x4, x5, rfl⟩ := hi
    rw [List.length_map, List.length_range]
    generalize (allW A n).map P.str = Y at *
    by_cases h0 : n = 0
    · simp -implicitDefEqProofs [wordsD, h0, asgTs, asgT]
    · simp -implicitDefEqProofs [wordsD, h0, asgTs, asgT]
end Sw.k45
/-! M45a: rotations, rows, circles, necklaces in plain lists. -/
namespace Sw.k45
def ltb : List Nat → List Nat → Bool
  | [], [] => false
  | [], _ :: _ => true
  | _ :: _, [] => false
  | a :: as, b :: bs => bif Nat.blt a b then true else bif Nat.blt b a then false else ltb as bs
def eqb : List Nat → List Nat → Bool
  | [], [] => true
  | [], _ :: _ => false
  | _ :: _, [] => false
  | a :: as, b :: bs => bif Nat.beq a b then eqb as bs else false
def ins {α : Type} (lt : α → α → Bool) (x : α) : List α → List α
  | [] => [x]
  | y :: ys => bif lt y x then y :: ins lt x ys else x :: y :: ys
def isort {α : Type} (lt : α → α → Bool) : List α → List α
  | [] => []
  | x :: xs => ins lt x (isort lt xs)
/-! letters and places written out: the kernel reckons them once -/
def fc {β : Type} (x : Nat) (k : Nat → β) : β := bif Nat.beq x 97 then k 97 else bif Nat.beq x 98 then k 98 else bif Nat.beq x 99 then k 99 else k x
def fi {β : Type} (x : Nat) (k : Nat → β) : β := bif Nat.beq x 0 then k 0 else bif Nat.beq x 1 then k 1 else bif Nat.beq x 2 then k 2 else bif Nat.beq x 3 then k 3 else bif Nat.beq x 4 then k 4 else bif Nat.beq x 5 then k 5 else bif Nat.beq x 6 then k 6 else k x
def fcs {β : Type} : List Nat → (List Nat → β) → β
  | [], k => k []
  | x :: xs, k => fc x fun c => fcs xs fun cs => k (c :: cs)
def fis {β : Type} : List Nat → (List Nat → β) → β
  | [], k => k []
  | x :: xs, k => fi x fun c => fis xs fun cs => k (c :: cs)
def fcss {β : Type} : List (List Nat) → (List (List Nat) → β) → β
  | [], k => k []
  | x :: xs, k => fcs x fun c => fcss xs fun cs => k (c :: cs)
theorem fc_eq {β : Type} (x : Nat) (k : Nat → β) : fc x k = k x := by
  unfold fc
  cases h : Nat.beq x 97 with
  | true => rw [Nat.eq_of_beq_eq_true h] <;> rfl
  | false =>
    cases h : Nat.beq x 98 with
    | true => rw [Nat.eq_of_beq_eq_true h] <;> rfl
    | false =>
      cases h : Nat.beq x 99 with
      | true => rw [Nat.eq_of_beq_eq_true h] <;> rfl
      | false => rfl
theorem fi_eq {β : Type} (x : Nat) (k : Nat → β) : fi x k = k x := by
  unfold fi
  match x with
  | 0 => rfl
  | 1 => rfl
  | 2 => rfl
  | 3 => rfl
  | 4 => rfl
  | 5 => rfl
  | 6 => rfl
  | n + 7 => rfl
theorem fcs_eq {β : Type} : ∀ (l : List Nat) (k : List Nat → β), fcs l k = k l
  | [], k => rfl
  | x :: xs, k => by unfold fcs; rw [fc_eq, fcs_eq]
theorem fis_eq {β : Type} : ∀ (l : List Nat) (k : List Nat → β), fis l k = k l
  | [], k => rfl
  | x :: xs, k => by unfold fis; rw [fi_eq, fis_eq]
theorem fcss_eq {β : Type} : ∀ (l : List (List Nat)) (k : List (List Nat) → β), fcss l k = k l
  | [], k => rfl
  | x :: xs, k => by unfold fcss; rw [fcs_eq, fcss_eq]
def rots (w : List Nat) : List (List Nat) := (List.range w.length).map fun k => w.drop k ++ w.take k
def lastC (w : List Nat) : Nat := w.getLastD 0
def turnK {β : Type} (w : List Nat) (K : List Nat → Nat → β) : β :=
  fcss (rots w) fun rs => fcss (isort ltb rs) fun rows => fcs (rows.map lastC) fun t => fi (rows.filter fun r => ltb r w).length fun n => K t n
def turn (w : List Nat) : List Nat × Nat := ((isort ltb (rots w)).map lastC, ((isort ltb (rots w)).filter fun r => ltb r w).length)
theorem turnK_eq {β : Type} (w : List Nat) (K : List Nat → Nat → β) : turnK w K = K (turn w).1 (turn w).2 := by
  unfold turnK turn
  simp only [fcss_eq, fcs_eq, fi_eq]
def pairlt (a b : Nat × Nat) : Bool := bif Nat.blt a.1 b.1 then true else bif Nat.blt b.1 a.1 then false else Nat.blt a.2 b.2
def order (row : List Nat) : List (Nat × Nat) := isort pairlt (row.zip (List.range row.length))
def sets : List (Nat × Nat) → Nat → List Nat → List Nat
  | [], _, found => found
  | q :: qs, n, found => sets qs (n + 1) (found.set q.2 n)
def stepsP (row : List Nat) : List Nat := sets (order row) 0 (List.replicate row.length 0)
def ixOf (k : Nat) : List Nat → Nat
  | [] => 0
  | x :: xs => bif Nat.beq x k then 0 else ixOf k xs + 1
def stepsL (row : List Nat) : List Nat := (List.range row.length).map fun k => ixOf k ((order row).map (·.2))
def circ (s : List Nat) (p : Nat) : Nat → Nat → List Nat
  | 0, c => [c]
  | f + 1, c => bif Nat.beq (s.getD c 0) p then [c] else c :: circ s p f (s.getD c 0)
def circOk (s : List Nat) (p : Nat) : Nat → Nat → Bool
  | 0, _ => false
  | f + 1, c => bif Nat.beq (s.getD c 0) p then true else circOk s p f (s.getD c 0)
def wordP (row s : List Nat) (p : Nat) : List Nat := ((circ s p row.length p).map fun k => row.getD k 0).reverse
def circL (row s : List Nat) (p : Nat) : Nat → List Nat → Nat → List Nat
  | 0, w, _ => w
  | f + 1, w, c => bif Nat.beq (s.getD c 0) p then row.getD c 0 :: w else circL row s p f (row.getD c 0 :: w) (s.getD c 0)
def wordL (row s : List Nat) (p : Nat) : List Nat := circL row s p row.length [] p
def minW : List Nat → List (List Nat) → List Nat
  | p, [] => p
  | p, y :: ys => bif ltb y p then minW y ys else minW p ys
def leastP (w : List Nat) : List Nat := fcss (rots w) fun rs => match rs with
  | [] => []
  | p :: ps => minW p ps
def leastL (w : List Nat) : List Nat := fcss (rots w) fun rs => (isort ltb rs).headD []
def times (w : List Nat) : Nat → List Nat
  | 0 => []
  | n + 1 => w ++ times w n
def readP (row : List Nat) (k : Nat) : Option (List Nat) :=
  bif Nat.ble row.length k then none else
    fis (stepsP row) fun s => fcs (wordP row s k) fun w =>
    bif Nat.beq (row.length % w.length) 0 then
      fcs (times w (row.length / w.length)) fun v =>
      turnK v fun t n => bif eqb t row && Nat.beq n k then some v else none
    else none
/-- the first two that differ -/
def unl1 (ws : List (List Nat)) (i : Nat) : List Nat → Option (Nat × Nat)
  | [] => none
  | j :: js => bif eqb (ws.getD i []) (ws.getD j []) then unl1 ws i js else some (i, j)
def unl (ws : List (List Nat)) : List Nat → Option (Nat × Nat)
  | [] => none
  | i :: is => match unl1 ws i ((List.range (ws.length - (i + 1))).map (i + 1 + ·)) with
    | some q => some q
    | none => unl ws is
def unlike (ws : List (List Nat)) : Option (Nat × Nat) := unl ws (List.range ws.length)
inductive Pap where
  | parted (i j : Nat)
  | turned (w : List Nat)
def Pap.eqb : Pap → Pap → Bool
  | .parted i j, .parted k l => Nat.beq i k && Nat.beq j l
  | .turned a, .turned b => k45.eqb a b
  | _, _ => false
def Pap.isT : Pap → Bool
  | .parted _ _ => false
  | .turned _ => true
def paperP (row : List Nat) : Pap :=
  fis (stepsP row) fun s =>
  fcss ((List.range row.length).map fun k => fcs (wordP row s k) leastP) fun ws =>
  match unlike ws with
  | some (i, j) => .parted i j
  | none => .turned (times (ws.getD 0 []) (row.length / (ws.getD 0 []).length))
def paperL (row : List Nat) : Pap :=
  fis (stepsL row) fun s =>
  fcss ((List.range row.length).map fun k => fcs (wordL row s k) leastL) fun ws =>
  match unlike ws with
  | some (i, j) => .parted i j
  | none => .turned (fcs (times (ws.getD 0 []) (row.length / (ws.getD 0 []).length)) leastL)
def mem (k : Nat) : List Nat → Bool
  | [] => false
  | x :: xs => bif Nat.beq x k then true else mem k xs
def neck (row s : List Nat) : List Nat → List Nat → List (List Nat)
  | [], _ => []
  | k :: ks, seen => bif mem k seen then neck row s ks seen else fcs (wordP row s k) leastP :: neck row s ks (seen ++ circ s k row.length k)
def lwlt (a b : Nat × List Nat) : Bool := bif Nat.blt a.1 b.1 then true else bif Nat.blt b.1 a.1 then false else ltb a.2 b.2
def bySize (ws : List (List Nat)) : List (List Nat) := (isort lwlt (ws.map fun w => (w.length, w))).map (·.2)
def neckP (row : List Nat) : List (List Nat) := bySize (neck row (stepsP row) (List.range row.length) [])
def maxN : Nat → List Nat → Nat
  | m, [] => m
  | m, x :: xs => bif Nat.blt m x then maxN x xs else maxN m xs
def longest (ws : List (List Nat)) : Nat := match ws.map List.length with
  | [] => 0
  | x :: xs => maxN x xs
def wclt (a b : List Nat × Nat) : Bool := bif ltb a.1 b.1 then true else bif ltb b.1 a.1 then false else Nat.blt a.2 b.2
def rowRows (ws : List (List Nat)) (m : Nat) : List (List Nat × Nat) := (ws.map fun w => (rots w).map fun r => ((times r (2 * m / r.length + 1)).take (2 * m), lastC r)).flatten
def fps {β : Type} : List (List Nat × Nat) → (List (List Nat × Nat) → β) → β
  | [], k => k []
  | x :: xs, k => fcs x.1 fun a => fc x.2 fun b => fps xs fun cs => k ((a, b) :: cs)
theorem fps_eq {β : Type} : ∀ (l : List (List Nat × Nat)) (k : List (List Nat × Nat) → β), fps l k = k l
  | [], k => rfl
  | x :: xs, k => by unfold fps; rw [fcs_eq, fc_eq, fps_eq]
def rowOf (ws : List (List Nat)) : List Nat := fps (rowRows ws (longest ws)) fun rs => (isort wclt rs).map (·.2)
def nlt (a b : Nat) : Bool := Nat.blt a b
def eqbs : List (List Nat) → List (List Nat) → Bool
  | [], [] => true
  | [], _ :: _ => false
  | _ :: _, [] => false
  | a :: as, b :: bs => bif eqb a b then eqbs as bs else false
def allR (f : Nat → Bool) : Nat → Bool
  | 0 => true
  | n + 1 => bif f n then allR f n else false
def noPer (w : List Nat) : Bool := allR (fun k => bif Nat.beq k 0 then true else !eqb w (times (w.take k) (w.length / k))) w.length
/-- of a word -/
def okW (w : List Nat) : Bool :=
  turnK w fun t n =>
  (match readP t n with
    | some v => eqb v w
    | none => false) &&
  (match paperL t with
    | .turned v => bif fcs (leastP w) fun l => eqb l w then eqb v w else true
    | _ => false)
/-- of a row -/
def okR (row : List Nat) : Bool :=
  fis (stepsP row) fun s => fis (stepsL row) fun sl =>
  eqb s sl && s.all (fun x => Nat.blt x row.length) && Nat.beq s.length row.length &&
  allR (fun k => circOk s k row.length k && fcs (wordP row s k) (fun wp => eqb wp (wordL row s k) && eqb (leastP wp) (leastL wp) && !wp.isEmpty) &&
    (match readP row k with
      | some v => Nat.beq v.length row.length && v.all (fun c => mem c row)
      | none => true)) row.length &&
  (match paperL row with
    | .turned v => fcs v fun v => (paperP row).eqb (.turned v) && eqb (leastP v) v && turnK v (fun t _ => eqb t row) && Nat.beq v.length row.length && v.all (fun c => mem c row)
    | .parted i j => (paperP row).eqb (.parted i j)) &&
  (fcss (neckP row) fun ws =>
   eqbs (bySize ws) ws && eqb (isort nlt ws.flatten) (isort nlt row) && eqb (rowOf ws) row && ws.all (fun w => eqb w (leastL w) && noPer w && !w.isEmpty && Nat.ble w.length row.length) && Nat.ble ws.length row.length && !ws.isEmpty)
def allN (f : List Nat → Bool) : Nat → List Nat → Bool
  | 0, w => f w
  | n + 1, w => bif allN f n (97 :: w) then (bif allN f n (98 :: w) then allN f n (99 :: w) else false) else false
end Sw.k45
/-! M45b: sorted, least: the evaluator's are those of the plain lists. -/
namespace Sw.k45
theorem ltb_is : ∀ a b : List Nat, ltb a b = decide (a < b)
  | [], [] => rfl
  | [], _ :: _ => by unfold ltb; exact (decide_eq_true (List.nil_lt_cons _ _)).symm
  | _ :: _, [] => by unfold ltb; exact (decide_eq_false (List.not_lt_nil _)).symm
  | a :: as, b :: bs => by
    unfold ltb
    have e1 : Nat.blt a b = decide (a < b) := by
      by_cases h : a < b
      · rw [decide_eq_true h]; exact Nat.blt_eq.mpr h
      · rw [decide_eq_false h]; exact Bool.eq_false_iff.mpr fun q => h (Nat.blt_eq.mp q)
    have e2 : Nat.blt b a = decide (b < a) := by
      by_cases h : b < a
      · rw [decide_eq_true h]; exact Nat.blt_eq.mpr h
      · rw [decide_eq_false h]; exact Bool.eq_false_iff.mpr fun q => h (Nat.blt_eq.mp q)
    rw [e1, e2, ltb_is as bs]
    by_cases h1 : a < b
    · simp [h1, List.cons_lt_cons_iff]
    · by_cases h2 : b < a
      · have h3 : ¬ a = b := by omega
        simp [h1, h2, h3, List.cons_lt_cons_iff]
      · have h3 : a = b := by omega
        subst h3
        simp [List.cons_lt_cons_iff]
theorem eqb_is : ∀ a b : List Nat, eqb a b = decide (a = b)
  | [], [] => rfl
  | [], _ :: _ => rfl
  | _ :: _, [] => rfl
  | a :: as, b :: bs => by
    unfold eqb
    rw [eqb_is as bs]
    by_cases h : a = b
    · subst h; simp
    · have : Nat.beq a b = false := Bool.eq_false_iff.mpr fun q => h (Nat.eq_of_beq_eq_true q)
      simp [this, h]
theorem eqb_iff {a b : List Nat} : eqb a b = true ↔ a = b := by rw [eqb_is]; exact decide_eq_true_iff
theorem blt_is (a b : Nat) : Nat.blt a b = decide (a < b) := by
  by_cases h : a < b
  · rw [decide_eq_true h]; exact Nat.blt_eq.mpr h
  · rw [decide_eq_false h]; exact Bool.eq_false_iff.mpr fun q => h (Nat.blt_eq.mp q)
theorem beq_is (a b : Nat) : Nat.beq a b = decide (a = b) := by
  by_cases h : a = b
  · subst h; simp
  · rw [decide_eq_false h]; exact Bool.eq_false_iff.mpr fun q => h (Nat.eq_of_beq_eq_true q)
section
variable {α : Type} {lt : α → α → Bool}
theorem ins_perm (x : α) : ∀ l : List α, (ins lt x l).Perm (x :: l)
  | [] => .refl _
  | y :: ys => by
    unfold ins
    cases lt y x with
    | true => exact (List.Perm.cons y (ins_perm x ys)).trans (List.Perm.swap x y ys)
    | false => exact .refl _
theorem isort_perm : ∀ l : List α, (isort lt l).Perm l
  | [] => .refl _
  | x :: xs => (ins_perm x _).trans ((isort_perm xs).cons x)
/-- sorted: no later one is less -/
theorem ins_sorted {f : α → P} {x : α} : ∀ {l : List α}, (∀ y ∈ l, lt y x = ltD (f y) (f x)) → (l.map f).Pairwise (fun a b => ltD b a = false) → ((ins lt x l).map f).Pairwise (fun a b => ltD b a = false)
  | [], _, _ => by simp [ins]
  | y :: ys, h, hp => by
    unfold ins
    rw [List.map_cons] at hp
    obtain ⟨h1, h2⟩ := List.pairwise_cons.mp hp
    have hy := h y List.mem_cons_self
    cases q : lt y x with
    | true =>
      rw [q] at hy
      show ((y :: ins lt x ys).map f).Pairwise _
      rw [List.map_cons]
      refine List.pairwise_cons.mpr ⟨fun b hb => ?_, ins_sorted (fun z hz => h z (List.mem_cons_of_mem _ hz)) h2⟩
      obtain ⟨z, hz, rfl⟩ := List.mem_map.mp hb
      rcases List.mem_cons.mp ((ins_perm x ys).mem_iff.mp hz) with rfl | hz
      · exact ltD_asym hy.symm
      · exact h1 _ (List.mem_map.mpr ⟨z, hz, rfl⟩)
    | false =>
      rw [q] at hy
      show ((x :: y :: ys).map f).Pairwise _
      rw [List.map_cons]
      refine List.pairwise_cons.mpr ⟨fun b hb => ?_, by rw [List.map_cons]; exact hp⟩
      obtain ⟨z, hz, rfl⟩ := List.mem_map.mp hb
      rcases List.mem_cons.mp hz with rfl | hz
      · exact hy.symm
      · exact ltD_le_trans (b := f y) hy.symm (h1 _ (List.mem_map.mpr ⟨z, hz, rfl⟩))
theorem isort_sorted {f : α → P} : ∀ {l : List α}, (∀ a ∈ l, ∀ b ∈ l, lt a b = ltD (f a) (f b)) → ((isort lt l).map f).Pairwise (fun a b => ltD b a = false)
  | [], _ => .nil
  | x :: xs, h => ins_sorted (fun y hy => h y (List.mem_cons_of_mem _ ((isort_perm xs).mem_iff.mp hy)) x List.mem_cons_self) (isort_sorted fun a ha b hb => h a (List.mem_cons_of_mem _ ha) b (List.mem_cons_of_mem _ hb))
theorem sortD_is {f : α → P} {l : List α} (h : ∀ a ∈ l, ∀ b ∈ l, lt a b = ltD (f a) (f b)) (anti : ∀ a ∈ l, ∀ b ∈ l, ltD (f a) (f b) = false → ltD (f b) (f a) = false → f a = f b) : sortD (l.map f) = (isort lt l).map f := by
  refine List.Perm.eq_of_pairwise (le := fun a b => ltD b a = false) (fun a b ha hb h1 h2 => ?_) (sortD_sorted _) (isort_sorted h) ((sortD_perm _).trans ((isort_perm l).map f).symm)
  obtain ⟨a, ha', rfl⟩ := List.mem_map.mp ((sortD_perm _).mem_iff.mp ha)
  obtain ⟨b, hb', rfl⟩ := List.mem_map.mp hb
  exact anti a ha' b ((isort_perm l).mem_iff.mp hb') h2 h1
end
theorem ltb_anti : ∀ {a b : List Nat}, ltb a b = false → ltb b a = false → a = b
  | [], [], _, _ => rfl
  | [], _ :: _, h, _ => by simp [ltb] at h
  | _ :: _, [], _, h => by simp [ltb] at h
  | x :: xs, y :: ys, h1, h2 => by
    unfold ltb at h1 h2
    rw [blt_is, blt_is] at h1 h2
    by_cases q1 : x < y
    · simp [q1] at h1
    · by_cases q2 : y < x
      · simp [q2] at h2
      · have : x = y := by omega
        subst this
        simp at h1 h2
        rw [ltb_anti h1 h2]
theorem lt_anti {a b : List Nat} (h1 : ¬ a < b) (h2 : ¬ b < a) : a = b := ltb_anti (by rw [ltb_is]; exact decide_eq_false h1) (by rw [ltb_is]; exact decide_eq_false h2)
theorem sort_strs (ws : List (List Nat)) : sortD (ws.map P.str) = (isort ltb ws).map P.str := by
  refine sortD_is (fun a _ b _ => ?_) fun a _ b _ h1 h2 => ?_
  · rw [ltb_is, ltD_str]
  · rw [ltD_str] at h1 h2
    rw [lt_anti (of_decide_eq_false h1) (of_decide_eq_false h2)]
def pSI (q : Nat × Nat) : P := .tup [.str [q.1], .int (q.2 : Int)]
theorem one_lt {a b : Nat} : ([a] < [b]) ↔ a < b := by
  rw [List.cons_lt_cons_iff]
  simp
theorem sort_pairs (l : List (Nat × Nat)) : sortD (l.map pSI) = (isort pairlt l).map pSI := by
  have e : ∀ a b : Nat × Nat, ltD (pSI a) (pSI b) = pairlt a b := fun a b => by
    unfold pSI pairlt
    rw [ltD_si, blt_is, blt_is, blt_is]
    by_cases h : a.1 = b.1
    · simp [h]
    · have h' : ¬ ([a.1] = [b.1]) := by simpa using h
      rw [if_neg h']
      by_cases h2 : a.1 < b.1
      · simp [one_lt, h2]
      · have h3 : b.1 < a.1 := by omega
        simp [one_lt, h2, h3]
  refine sortD_is (fun a _ b _ => (e a b).symm) fun a _ b _ h1 h2 => ?_
  rw [e] at h1 h2
  unfold pairlt at h1 h2
  rw [blt_is, blt_is, blt_is] at h1 h2
  obtain ⟨a1, a2⟩ := a
  obtain ⟨b1, b2⟩ := b
  by_cases q1 : a1 < b1
  · simp [q1] at h1
  · by_cases q2 : b1 < a1
    · simp [q2] at h2
    · have : a1 = b1 := by omega
      subst this
      simp at h1 h2
      have : a2 = b2 := by omega
      subst this
      rfl
theorem ltD_is (a b : List Nat) (i j : Int) : ltD (.tup [.int i, .str a]) (.tup [.int j, .str b]) = if i = j then decide (a < b) else decide (i < j) := by
  rw [ltD_pair (by simp [toPy, PySem.W.alike]) (by simp [toPy, PySem.W.alike]), ltD_str, ltD_int]
  have e1 : ((PySem.PyData.eqv (toPy (.str a)) (toPy (.str b))) = true) ↔ (a = b) := by
    simp only [toPy, PySem.PyData.eqv]
    refine ⟨fun h => sOf_inj (by simpa using h), fun h => by simp [h]⟩
  by_cases h : i = j
  · rw [if_pos (by simp [toPy, PySem.PyData.eqv, h]), if_pos h]
    by_cases h2 : a = b
    · rw [if_pos (e1.mpr h2)]
      subst h2
      exact (decide_eq_false (List.lt_irrefl a)).symm
    · rw [if_neg (fun q => h2 (e1.mp q))]
  · rw [if_neg (by simp [toPy, PySem.PyData.eqv, h]), if_neg h]
theorem ltD_ss (a b c d : List Nat) : ltD (.tup [.str a, .str c]) (.tup [.str b, .str d]) = if a = b then decide (c < d) else decide (a < b) := by
  rw [ltD_pair (by simp [toPy, PySem.W.alike]) (by simp [toPy, PySem.W.alike]), ltD_str, ltD_str]
  have e1 : ∀ a b : List Nat, ((PySem.PyData.eqv (toPy (.str a)) (toPy (.str b))) = true) ↔ (a = b) := fun a b => by
    simp only [toPy, PySem.PyData.eqv]
    refine ⟨fun h => sOf_inj (by simpa using h), fun h => by simp [h]⟩
  by_cases h : a = b
  · rw [if_pos ((e1 a b).mpr h), if_pos h]
    by_cases h2 : c = d
    · rw [if_pos ((e1 c d).mpr h2)]
      subst h2
      exact (decide_eq_false (List.lt_irrefl c)).symm
    · rw [if_neg (fun q => h2 ((e1 c d).mp q))]
  · rw [if_neg (fun q => h ((e1 a b).mp q)), if_neg h]
def pIS (q : Nat × List Nat) : P := .tup [.int (q.1 : Int), .str q.2]
theorem sort_lw (l : List (Nat × List Nat)) : sortD (l.map pIS) = (isort lwlt l).map pIS := by
  have e : ∀ a b : Nat × List Nat, ltD (pIS a) (pIS b) = lwlt a b := fun a b => by
    unfold pIS lwlt
    rw [ltD_is, blt_is, blt_is, ltb_is]
    obtain ⟨a1, a2⟩ := a
    obtain ⟨b1, b2⟩ := b
    by_cases h : a1 = b1
    · subst h; simp
    · by_cases h2 : a1 < b1
      · have h4 : ¬ ((a1 : Int) = (b1 : Int)) := by omega
        simp [h4, h2]
      · have h3 : b1 < a1 := by omega
        have h4 : ¬ ((a1 : Int) = (b1 : Int)) := by omega
        simp [h4, h2, h3]
  refine sortD_is (fun a _ b _ => (e a b).symm) fun a _ b _ h1 h2 => ?_
  rw [e] at h1 h2
  unfold lwlt at h1 h2
  rw [blt_is, blt_is, ltb_is] at h1 h2
  obtain ⟨a1, a2⟩ := a
  obtain ⟨b1, b2⟩ := b
  by_cases q1 : a1 < b1
  · simp [q1] at h1
  · by_cases q2 : b1 < a1
    · simp [q2] at h2
    · have : a1 = b1 := by omega
      subst this
      simp only [decide_eq_false q1, cond_false] at h1 h2
      rw [lt_anti (of_decide_eq_false h1) (of_decide_eq_false h2)]
def pSS (q : List Nat × Nat) : P := .tup [.str q.1, .str [q.2]]
theorem sort_wc (l : List (List Nat × Nat)) : sortD (l.map pSS) = (isort wclt l).map pSS := by
  have e : ∀ a b : List Nat × Nat, ltD (pSS a) (pSS b) = wclt a b := fun a b => by
    unfold pSS wclt
    rw [ltD_ss, ltb_is, ltb_is, blt_is]
    obtain ⟨a1, a2⟩ := a
    obtain ⟨b1, b2⟩ := b
    by_cases h : a1 = b1
    · subst h
      simp [one_lt, List.lt_irrefl]
    · by_cases h2 : a1 < b1
      · simp [h, h2]
      · have h3 : b1 < a1 := Classical.byContradiction fun q => h (lt_anti h2 q)
        simp [h, h2, h3]
  refine sortD_is (fun a _ b _ => (e a b).symm) fun a _ b _ h1 h2 => ?_
  rw [e] at h1 h2
  unfold wclt at h1 h2
  rw [ltb_is, ltb_is, blt_is] at h1 h2
  obtain ⟨a1, a2⟩ := a
  obtain ⟨b1, b2⟩ := b
  by_cases q1 : a1 < b1
  · simp [q1] at h1
  · by_cases q2 : b1 < a1
    · simp [q2] at h2
    · have : a1 = b1 := lt_anti q1 q2
      subst this
      simp only [decide_eq_false q1, cond_false] at h1 h2
      have := of_decide_eq_false h1
      have := of_decide_eq_false h2
      have : a2 = b2 := by omega
      subst this
      rfl
theorem sort_chr (w : List Nat) : sortD (w.map fun c => P.str [c]) = (isort nlt w).map fun c => P.str [c] := by
  refine sortD_is (fun a _ b _ => ?_) fun a _ b _ h1 h2 => ?_
  · rw [ltD_str]
    unfold nlt
    rw [blt_is]
    by_cases h : a < b <;> simp [one_lt, h]
  · rw [ltD_str] at h1 h2
    have h1 := of_decide_eq_false h1
    have h2 := of_decide_eq_false h2
    rw [one_lt] at h1 h2
    rw [show a = b by omega]
theorem minD_strs : ∀ (ps : List (List Nat)) (p : List Nat), minD (.str p) (ps.map P.str) = .str (minW p ps)
  | [], p => rfl
  | y :: ys, p => by
    have e : minD (.str p) ((y :: ys).map P.str) = minD (if ltD (.str y) (.str p) then .str y else .str p) (ys.map P.str) := rfl
    rw [e, ltD_str]
    unfold minW
    rw [ltb_is]
    by_cases h : y < p
    · simp only [decide_eq_true h, if_true, cond_true]; exact minD_strs ys y
    · simp only [decide_eq_false h, Bool.false_eq_true, if_false, cond_false]; exact minD_strs ys p
/-! what is sorted is in order for the evaluator -/
theorem sortOk_by {ps : List P} (h1 : ∀ p ∈ ps, ∀ q ∈ ps, PySem.W.alike (toPy p) (toPy q) = true) (h2 : ps.all isTupC = true ∨ ps.all (fun p => !isNonP p && !isTupP p) = true) (h3 : ∀ p ∈ ps, depth p ≤ 50) (h4 : ps.length ≤ line) : sortOk ps = true := by
  unfold sortOk
  rw [alikes_by h1, decide_eq_true (depths_le h3), decide_eq_true h4]
  rcases h2 with h | h <;> simp [h]
theorem so_sort {ps : List P} (h : sortOk ps = true) : opSem .sorted [.lst ps] = some (.lst (sortD ps)) := by
  simp only [opSem, opSorted, colOf, seqOf, listOf, Option.bind_some]
  rw [if_pos h]
theorem so_sortSt {w : List Nat} (h : w.length ≤ line) : opSem .sorted [.imm (.str w)] = some (.lst ((isort nlt w).map fun c => P.str [c])) := by
  simp only [opSem, opSorted, colOf, Option.bind_some]
  rw [if_pos, sort_chr]
  refine sortOk_by (fun p hp q hq => ?_) (.inr ?_) (fun p hp => ?_) (by rw [List.length_map]; exact h)
  · obtain ⟨a, _, rfl⟩ := List.mem_map.mp hp
    obtain ⟨b, _, rfl⟩ := List.mem_map.mp hq
    simp [toPy, PySem.W.alike]
  · rw [List.all_map, List.all_eq_true]; intro a _; rfl
  · obtain ⟨a, _, rfl⟩ := List.mem_map.mp hp
    simp [depth]
theorem so_sortSS {ws : List (List Nat)} (h : ws.length ≤ line) : opSem .sorted [.lst (ws.map P.str)] = some (.lst ((isort ltb ws).map P.str)) := by
  rw [so_sortS h, sort_strs]
theorem so_sortP {l : List (Nat × Nat)} (h : l.length ≤ line) : opSem .sorted [.lst (l.map pSI)] = some (.lst ((isort pairlt l).map pSI)) := by
  rw [so_sort, sort_pairs]
  refine sortOk_by (fun p hp q hq => ?_) (.inl ?_) (fun p hp => ?_) (by rw [List.length_map]; exact h)
  · obtain ⟨a, _, rfl⟩ := List.mem_map.mp hp
    obtain ⟨b, _, rfl⟩ := List.mem_map.mp hq
    simp [pSI, toPy, toPys, PySem.W.alike, PySem.W.alikeAll]
  · rw [List.all_map, List.all_eq_true]; intro a _; rfl
  · obtain ⟨a, _, rfl⟩ := List.mem_map.mp hp
    simp [pSI, depth, depths]
theorem so_sortIS {l : List (Nat × List Nat)} (h : l.length ≤ line) : opSem .sorted [.lst (l.map pIS)] = some (.lst ((isort lwlt l).map pIS)) := by
  rw [so_sort, sort_lw]
  refine sortOk_by (fun p hp q hq => ?_) (.inl ?_) (fun p hp => ?_) (by rw [List.length_map]; exact h)
  · obtain ⟨a, _, rfl⟩ := List.mem_map.mp hp
    obtain ⟨b, _, rfl⟩ := List.mem_map.mp hq
    simp [pIS, toPy, toPys, PySem.W.alike, PySem.W.alikeAll]
  · rw [List.all_map, List.all_eq_true]; intro a _; rfl
  · obtain ⟨a, _, rfl⟩ := List.mem_map.mp hp
    simp [pIS, depth, depths]
theorem so_sortWC {l : List (List Nat × Nat)} (h : l.length ≤ line) : opSem .sorted [.lst (l.map pSS)] = some (.lst ((isort wclt l).map pSS)) := by
  rw [so_sort, sort_wc]
  refine sortOk_by (fun p hp q hq => ?_) (.inl ?_) (fun p hp => ?_) (by rw [List.length_map]; exact h)
  · obtain ⟨a, _, rfl⟩ := List.mem_map.mp hp
    obtain ⟨b, _, rfl⟩ := List.mem_map.mp hq
    simp [pSS, toPy, toPys, PySem.W.alike, PySem.W.alikeAll]
  · rw [List.all_map, List.all_eq_true]; intro a _; rfl
  · obtain ⟨a, _, rfl⟩ := List.mem_map.mp hp
    simp [pSS, depth, depths]
theorem so_minS {p : List Nat} {ps : List (List Nat)} : opSem .minL [.lst ((p :: ps).map P.str)] = some (.imm (.str (minW p ps))) := by
  rw [← minD_strs]
  simp only [opSem, opMinL, seqOf, listOf, Option.bind_some, List.map_cons]
  rw [if_pos]
  unfold minOk
  rw [← List.map_cons (f := P.str)]
  have h1 : alikes ((p :: ps).map P.str) = true := alikes_by fun p hp q hq => by
    obtain ⟨a, _, rfl⟩ := List.mem_map.mp hp
    obtain ⟨b, _, rfl⟩ := List.mem_map.mp hq
    simp [toPy, PySem.W.alike]
  have h2 : ((p :: ps).map P.str).all (fun p => !isNonP p) = true := by
    rw [List.all_map, List.all_eq_true]; intro a _; rfl
  have h3 : depths ((p :: ps).map P.str) ≤ 50 := depths_le fun p hp => by
    obtain ⟨a, _, rfl⟩ := List.mem_map.mp hp
    simp [depth]
  rw [h1, h2, decide_eq_true h3] <;> rfl
/-! a comprehension that changes no name -/
theorem comp_map {α : Type} {step : P → List P → En → Option (List P × En)} {e : En} (f g : α → P) (c : α → Bool) {l : List α} (hl : l.length ≤ line)
    (hs : ∀ a ∈ l, ∀ acc : List P, acc.length < line → step (f a) acc e = some (acc ++ (if c a then [g a] else []), e)) : compL step (l.map f) [] e = some ((l.filter c).map g, e) := by
  have key : ∀ (m : List α) (acc : List P), acc.length + m.length ≤ line → (∀ a ∈ m, a ∈ l) → compL step (m.map f) acc e = some (acc ++ (m.filter c).map g, e) := by
    intro m
    induction m with
    | nil => intro acc _ _; simp [compL]
    | cons a m ih =>
      intro acc h1 h2
      rw [List.length_cons] at h1
      rw [List.map_cons]
      unfold compL
      rw [hs a (h2 a List.mem_cons_self) acc (by omega), Option.bind_some]
      show compL step (m.map f) (acc ++ if c a then [g a] else []) e = _
      rw [ih _ (by rw [List.length_append]; split <;> simp <;> omega) fun b hb => h2 b (List.mem_cons_of_mem _ hb)]
      cases hc : c a <;> simp [hc]
  have := key l [] (by rw [List.length_nil, Nat.zero_add]; exact hl) fun a h => h
  simpa using this
end Sw.k45
namespace Sw.k45
theorem rots_len (w : List Nat) : (rots w).length = w.length := by simp [rots]
theorem rots_mem {w r : List Nat} (h : r ∈ rots w) : r.length = w.length ∧ ∀ c, c ∈ r ↔ c ∈ w := by
  obtain ⟨k, hk, rfl⟩ := List.mem_map.mp h
  refine ⟨by simp; omega, fun c => ?_⟩
  rw [List.mem_append, Or.comm, ← List.mem_append, List.take_append_drop]
theorem map_true {α β : Type} (l : List α) (g : α → β) : (l.filter fun _ => true).map g = l.map g := by rw [List.filter_eq_self.mpr (fun _ _ => rfl)]
theorem c_rot (k : Nat) (w : List Nat) (hl : w.length ≤ 1000) : callF prog G (k + 1) 1 [.imm (.str w)] = some (.lst ((rots w).map P.str), [.imm (.str w)]) := by
  refine wp_is (call_wp (fn := f_rotations) rfl rfl ?_)
  have hll : w.length ≤ line := le_lineN (by omega)
  simp -implicitDefEqProofs [f_rotations, b_rotations, so_lenS hll, it_rng1 (show w.length ≤ 1000000 by omega)]
  refine wp_eq (comp_map (fun k : Nat => P.int (k : Int)) (fun k => P.str (w.drop k ++ w.take k)) (fun _ => true) (by rw [List.length_range]; exact hll) fun j hj acc hacc => ?_) ?_
  · have e1 : slcSem (.imm (.str w)) (some (j : Int)) none = some (.imm (.str (w.drop j))) := by rw [so_slcS hll, cut_n0]
    have e2 : slcSem (.imm (.str w)) none (some (j : Int)) = some (.imm (.str (w.take j))) := by rw [so_slcS hll, cut_0n]
    have e3 : opSem .add [.imm (.str (w.drop j)), .imm (.str (w.take j))] = some (.imm (.str (w.drop j ++ w.take j))) := so_adds (le_lineN (by simp; omega))
    generalize w.drop j ++ w.take j = x at *
    generalize w.drop j = a at *
    generalize w.take j = b at *
    simp -implicitDefEqProofs [stepCc, e1, e2, e3, hacc]
  · rw [map_true, show (List.range w.length).map (fun k => P.str (w.drop k ++ w.take k)) = (rots w).map P.str by unfold rots; rw [List.map_map] <;> rfl]
theorem c_lrot (k : Nat) (w : List Nat) (hl : w.length ≤ 1000) : callF prog G (k + 1) 22 [.imm (.str w)] = some (.lst ((isort ltb (rots w)).map P.str), [.imm (.str w)]) := by
  refine wp_is (call_wp (fn := f__law_rotations) rfl rfl ?_)
  have hll : w.length ≤ line := le_lineN (by omega)
  simp -implicitDefEqProofs [f__law_rotations, b__law_rotations, so_lenS hll, it_rng1 (show w.length ≤ 1000000 by omega)]
  refine wp_eq (comp_map (fun k : Nat => P.int (k : Int)) (fun k => P.str (w.drop k ++ w.take k)) (fun _ => true) (by rw [List.length_range]; exact hll) fun j hj acc hacc => ?_) ?_
  · have e1 : slcSem (.imm (.str w)) (some (j : Int)) none = some (.imm (.str (w.drop j))) := by rw [so_slcS hll, cut_n0]
    have e2 : slcSem (.imm (.str w)) none (some (j : Int)) = some (.imm (.str (w.take j))) := by rw [so_slcS hll, cut_0n]
    have e3 : opSem .add [.imm (.str (w.drop j)), .imm (.str (w.take j))] = some (.imm (.str (w.drop j ++ w.take j))) := so_adds (le_lineN (by simp; omega))
    generalize w.drop j ++ w.take j = x at *
    generalize w.drop j = a at *
    generalize w.take j = b at *
    simp -implicitDefEqProofs [stepCc, e1, e2, e3, hacc]
  · rw [map_true, show (List.range w.length).map (fun k => P.str (w.drop k ++ w.take k)) = (rots w).map P.str by unfold rots; rw [List.map_map] <;> rfl]
    have hs := so_sortSS (ws := rots w) (by rw [rots_len]; exact hll)
    generalize (rots w).map P.str = x at *
    generalize (isort ltb (rots w)).map P.str = y at *
    simp -implicitDefEqProofs [hs, asgTs, asgT]
theorem last_at {r : List Nat} (h0 : r ≠ []) (hl : r.length ≤ line) : opSem .idx [.imm (.str r), .imm (.int (-1))] = some (.imm (.str [lastC r])) := by
  rw [so_idxS hl, at_last h0]
  have : r[r.length - 1]? = some (lastC r) := by
    unfold lastC
    rw [List.getLastD_eq_getLast?, List.getLast?_eq_getElem?]
    have : r.length - 1 < r.length := by have := List.length_pos_iff.mpr h0; omega
    rw [List.getElem?_eq_getElem this]
    rfl
  rw [this]
  rfl
theorem so_ltS (a b : List Nat) : opSem .lt [.imm (.str a), .imm (.str b)] = some (.imm (.bl (ltb a b))) := by
  rw [ltb_is]; rfl
def tW (w : List Nat) : P := .tup [.str (turn w).1, .int ((turn w).2 : Int)]
theorem turn_len (w : List Nat) : (turn w).1.length = w.length := by
  unfold turn
  rw [List.length_map, (isort_perm _).length_eq, rots_len]
/-- the rows, then their last letters -/
theorem rows_ok {w : List Nat} (hw : w ≠ []) {r : List Nat} (h : r ∈ isort ltb (rots w)) : r ≠ [] ∧ r.length = w.length := by
  have := (rots_mem ((isort_perm _).mem_iff.mp h)).1
  refine ⟨fun q => hw (List.length_eq_zero_iff.mp ?_), this⟩
  rw [q] at this
  exact this.symm
theorem c_turn (k : Nat) (w : List Nat) (hl : w.length ≤ 1000) : callF prog G (k + 2) 2 [.imm (.str w)] = some (.imm (tW w), [.imm (.str w)]) := by
  refine wp_is (call_wp (fn := f_turned_row) rfl rfl ?_)
  have hll : w.length ≤ line := le_lineN (by omega)
  have e1 := c_rot k w hl
  have hs := so_sortSS (ws := rots w) (by rw [rots_len]; exact hll)
  have hrl : (isort ltb (rots w)).length = w.length := by rw [(isort_perm _).length_eq, rots_len]
  simp -implicitDefEqProofs [f_turned_row, b_turned_row, rcvOk, e1, hs]
  refine wp_eq (comp_map P.str (fun r => P.str [lastC r]) (fun _ => true) (by rw [hrl]; exact hll) fun r hr acc hacc => ?_) ?_
  · have hw : w ≠ [] := fun q => by subst q; cases hr
    obtain ⟨h1, h2⟩ := rows_ok hw hr
    have e2 := last_at h1 (by rw [h2]; exact hll)
    generalize [lastC r] = x at *
    simp -implicitDefEqProofs [stepCc, e2, hacc]
  · rw [map_true]
    have hj : opSem .join [.imm (.str []), .lst ((isort ltb (rots w)).map fun r => P.str [lastC r])] = some (.imm (.str (turn w).1)) := by
      have := so_joinC (w := (turn w).1) (le_lineN (by rw [turn_len]; omega))
      unfold turn at this ⊢
      simpa [List.map_map, Function.comp_def] using this
    simp -implicitDefEqProofs [rcvOk, hj]
    refine wp_eq (comp_map P.str (fun r => P.str r) (fun r => ltb r w) (by rw [hrl]; exact hll) fun r hr acc hacc => ?_) ?_
    · have e3 := so_ltS r w
      cases hb : ltb r w with
      | true => rw [hb] at e3; simp -implicitDefEqProofs [stepCc, e3, hacc]
      | false => rw [hb] at e3; simp -implicitDefEqProofs [stepCc, e3]
    · have e4 : (((isort ltb (rots w)).filter fun r => ltb r w).map fun r => P.str r).length = (turn w).2 := by rw [List.length_map] <;> rfl
      have e5 := so_lenL (ps := (((isort ltb (rots w)).filter fun r => ltb r w).map fun r => P.str r))
      rw [e4] at e5
      have e6 : (2 : Nat) ≤ line := le_lineN (by omega)
      unfold tW
      generalize (((isort ltb (rots w)).filter fun r => ltb r w).map fun r => P.str r) = x at *
      generalize (turn w).1 = t1 at *
      generalize (turn w).2 = t2 at *
      simp -implicitDefEqProofs [e4, e6, asgTs, asgT]
theorem c_lturn (k : Nat) (w : List Nat) (hl : w.length ≤ 1000) : callF prog G (k + 2) 23 [.imm (.str w)] = some (.imm (tW w), [.imm (.str w)]) := by
  refine wp_is (call_wp (fn := f__law_turned) rfl rfl ?_)
  have hll : w.length ≤ line := le_lineN (by omega)
  have e1 := c_lrot k w hl
  have hrl : (isort ltb (rots w)).length = w.length := by rw [(isort_perm _).length_eq, rots_len]
  simp -implicitDefEqProofs [f__law_turned, b__law_turned, rcvOk, e1]
  refine wp_eq (comp_map P.str (fun r => P.str [lastC r]) (fun _ => true) (by rw [hrl]; exact hll) fun r hr acc hacc => ?_) ?_
  · have hw : w ≠ [] := fun q => by subst q; cases hr
    obtain ⟨h1, h2⟩ := rows_ok hw hr
    have e2 := last_at h1 (by rw [h2]; exact hll)
    generalize [lastC r] = x at *
    simp -implicitDefEqProofs [stepCc, e2, hacc]
  · rw [map_true]
    have hj : opSem .join [.imm (.str []), .lst ((isort ltb (rots w)).map fun r => P.str [lastC r])] = some (.imm (.str (turn w).1)) := by
      have := so_joinC (w := (turn w).1) (le_lineN (by rw [turn_len]; omega))
      unfold turn at this ⊢
      simpa [List.map_map, Function.comp_def] using this
    simp -implicitDefEqProofs [rcvOk, hj]
    refine wp_eq (comp_map P.str (fun r => P.str r) (fun r => ltb r w) (by rw [hrl]; exact hll) fun r hr acc hacc => ?_) ?_
    · have e3 := so_ltS r w
      cases hb : ltb r w with
      | true => rw [hb] at e3; simp -implicitDefEqProofs [stepCc, e3, hacc]
      | false => rw [hb] at e3; simp -implicitDefEqProofs [stepCc, e3]
    · have e4 : (((isort ltb (rots w)).filter fun r => ltb r w).map fun r => P.str r).length = (turn w).2 := by rw [List.length_map] <;> rfl
      have e5 := so_lenL (ps := (((isort ltb (rots w)).filter fun r => ltb r w).map fun r => P.str r))
      rw [e4] at e5
      have e6 : (2 : Nat) ≤ line := le_lineN (by omega)
      unfold tW
      generalize (((isort ltb (rots w)).filter fun r => ltb r w).map fun r => P.str r) = x at *
      generalize (turn w).1 = t1 at *
      generalize (turn w).2 = t2 at *
      simp -implicitDefEqProofs [e4, e6, asgTs, asgT]
theorem rots_cons {w : List Nat} (h : w ≠ []) : ∃ p ps, rots w = p :: ps := by
  cases e : rots w with
  | nil => exact absurd (List.length_eq_zero_iff.mp (by rw [← rots_len, e] <;> rfl)) h
  | cons p ps => exact ⟨p, ps, rfl⟩
theorem c_least (k : Nat) (w : List Nat) (h0 : w ≠ []) (hl : w.length ≤ 1000) : callF prog G (k + 2) 7 [.imm (.str w)] = some (.imm (.str (leastP w)), [.imm (.str w)]) := by
  refine wp_is (call_wp (fn := f_least_rotation) rfl rfl ?_)
  have e1 := c_rot k w hl
  obtain ⟨p, ps, e⟩ := rots_cons h0
  have e2 : leastP w = minW p ps := by unfold leastP; rw [fcss_eq, e] <;> rfl
  rw [e] at e1
  have e3 := so_minS (p := p) (ps := ps)
  rw [e2]
  generalize minW p ps = m at *
  generalize (p :: ps).map P.str = x at *
  simp -implicitDefEqProofs [f_least_rotation, b_least_rotation, e1, e3, asgTs, asgT]
theorem c_lleast (k : Nat) (w : List Nat) (h0 : w ≠ []) (hl : w.length ≤ 1000) : callF prog G (k + 2) 26 [.imm (.str w)] = some (.imm (.str (leastL w)), [.imm (.str w)]) := by
  refine wp_is (call_wp (fn := f__law_least) rfl rfl ?_)
  have e1 := c_lrot k w hl
  have e2 : leastL w = (isort ltb (rots w)).headD [] := by unfold leastL; rw [fcss_eq]
  rw [e2]
  cases e : isort ltb (rots w) with
  | nil =>
    have := (isort_perm (lt := ltb) (rots w)).length_eq
    rw [e, rots_len] at this
    exact absurd (List.length_eq_zero_iff.mp this.symm) h0
  | cons p ps =>
    rw [e] at e1
    have e3 : atP ((p :: ps).map P.str) 0 = some (.str p) := at_nat (i := 0) (by simp)
    show wp _ _
    rw [List.headD_cons]
    generalize (p :: ps).map P.str = x at *
    simp -implicitDefEqProofs [f__law_least, b__law_least, e1, e3, asgTs, asgT]
theorem fold_min (ps : List (List Nat)) (p : List Nat) : (minW p ps = p ∨ minW p ps ∈ ps) ∧ ltb p (minW p ps) = false ∧ ∀ q ∈ ps, ltb q (minW p ps) = false := by
  obtain ⟨h1, h2⟩ := minD_spec (ps.map P.str) (.str p)
  rw [minD_strs] at h1 h2
  refine ⟨?_, ?_, fun q hq => ?_⟩
  · rcases List.mem_cons.mp h1 with h | h
    · exact .inl (by injection h)
    · obtain ⟨q, hq, e⟩ := List.mem_map.mp h
      injection e with e
      exact .inr (e ▸ hq)
  · have := h2 _ List.mem_cons_self
    rw [ltD_str] at this
    rw [ltb_is]; exact this
  · have := h2 _ (List.mem_cons_of_mem _ (List.mem_map.mpr ⟨q, hq, rfl⟩))
    rw [ltD_str] at this
    rw [ltb_is]; exact this
end Sw.k45
namespace Sw.k45
theorem zip_rng (w : List Nat) : (w.map fun c => P.str [c]).zipIdx.map (fun q => P.tup [.int (q.2 : Int), q.1]) = (w.zip (List.range w.length)).map fun q => P.tup [.int (q.2 : Int), .str [q.1]] := by
  rw [List.zipIdx_eq_zip_range', List.length_map, ← List.range_eq_range']
  apply List.ext_getElem
  · simp
  · intro i h1 h2
    simp
theorem it_enumS (w : List Nat) : items .enum [.imm (.str w)] = some ((w.zip (List.range w.length)).map fun q => P.tup [.int (q.2 : Int), .str [q.1]]) := by
  exact congrArg some (zip_rng w)
theorem getD_rng (row : List Nat) : (List.range row.length).map (fun k => (row.getD k 0, k)) = row.zip (List.range row.length) := by
  apply List.ext_getElem
  · simp
  · intro i h1 h2
    have : i < row.length := by simpa using h1
    simp [List.getD_eq_getElem?_getD, this]
theorem order_perm (row : List Nat) : (order row).Perm (row.zip (List.range row.length)) := isort_perm _
theorem order_len (row : List Nat) : (order row).length = row.length := by rw [(order_perm row).length_eq]; simp
theorem order_lt {row : List Nat} {q : Nat × Nat} (h : q ∈ order row) : q.2 < row.length := by
  have := (order_perm row).mem_iff.mp h
  have := (List.of_mem_zip (a := q.1) (b := q.2) this).2
  simpa using this
theorem sets_snoc : ∀ (l : List (Nat × Nat)) (q : Nat × Nat) (n : Nat) (found : List Nat), sets (l ++ [q]) n found = (sets l n found).set q.2 (n + l.length)
  | [], q, n, found => by simp [sets]
  | a :: l, q, n, found => by
    rw [List.cons_append]
    unfold sets
    rw [sets_snoc l q (n + 1), List.length_cons]
    congr 1
    omega
theorem sets_len : ∀ (l : List (Nat × Nat)) (n : Nat) (found : List Nat), (sets l n found).length = found.length
  | [], n, found => rfl
  | a :: l, n, found => by unfold sets; rw [sets_len l]; simp
theorem c_steps (k : Nat) (row : List Nat) (hl : row.length ≤ 1000) : callF prog G (k + 1) 3 [.imm (.str row)] = some (.lst (nat2 (stepsP row)), [.imm (.str row)]) := by
  refine wp_is (call_wp (fn := f_steps_of) rfl rfl ?_)
  have hll : row.length ≤ line := le_lineN (by omega)
  simp only [f_steps_of, b_steps_of]
  have hz : (row.zip (List.range row.length)).length = row.length := by simp
  refine wp_seq (fun r => r = (.nx, [some (.imm (.str row)), some (.lst ((order row).map pSI)), none, none, none, none])) (fun R hR => ?_) fun r hr => ?_
  · simp -implicitDefEqProofs [it_enumS]
    refine wp_eq (comp_map (fun q : Nat × Nat => P.tup [.int (q.2 : Int), .str [q.1]]) pSI (fun _ => true) (by rw [hz]; exact hll) fun q hq acc hacc => ?_) ?_
    · have e6 : (2 : Nat) ≤ line := le_lineN (by omega)
      simp -implicitDefEqProofs [stepCc, hacc, e6, pSI]
    · rw [map_true]
      have hs := so_sortP (l := row.zip (List.range row.length)) (by rw [hz]; exact hll)
      have ho : isort pairlt (row.zip (List.range row.length)) = order row := rfl
      rw [ho] at hs
      generalize (row.zip (List.range row.length)).map pSI = x at *
      simp -implicitDefEqProofs [hs]
      exact hR _ rfl
  subst hr
  refine wp_seq (fun r => r = (.nx, [some (.imm (.str row)), some (.lst ((order row).map pSI)), some (.lst (nat2 (List.replicate row.length 0))), none, none, none])) (fun R hR => ?_) fun r hr => ?_
  · have h1 : opSem .mul [.lst [.int 0], .imm (.int (row.length : Int))] = some (.lst (nat2 (List.replicate row.length 0))) := by
      rw [so_mulL (by simp only [List.length_singleton, Nat.one_mul]; exact hll) (by omega), rept_one]
      unfold nat2
      rw [List.map_replicate] <;> rfl
    have e6 : (1 : Nat) ≤ line := le_lineN (by omega)
    generalize (order row).map pSI = x at *
    generalize nat2 (List.replicate row.length 0) = y at *
    simp -implicitDefEqProofs [so_lenS hll, h1, e6]
    exact hR _ rfl
  subst hr
  refine wp_seq (fun r => ∃ x y z, r = (.nx, [some (.imm (.str row)), some (.lst ((order row).map pSI)), some (.lst (nat2 (stepsP row))), x, y, z])) (fun R hR => ?_) fun r hr => ?_
  · have hit : items .enum [.lst ((order row).map pSI)] = some (((order row).map pSI).zipIdx.map fun q => .tup [.int (q.2 : Int), q.1]) := rfl
    simp -implicitDefEqProofs [-List.map_map, hit]
    refine wp_for (fun i e => ∃ x y z, e = [some (.imm (.str row)), some (.lst ((order row).map pSI)), some (.lst (nat2 (sets ((order row).take i) 0 (List.replicate row.length 0)))), x, y, z]) ⟨none, none, none, rfl⟩ (fun i p e hp hi => ?_) (fun e hi => ?_)
    · obtain ⟨x, y, z, rfl⟩ := hi
      have hlt : i < (order row).length := by have := (List.getElem?_eq_some_iff.mp hp).1; simpa using this
      have hq : (order row)[i]? = some (order row)[i] := List.getElem?_eq_getElem hlt
      have hp2 : p = .tup [.int (i : Int), pSI (order row)[i]] := by
        have : (((order row).map pSI).zipIdx.map fun q => P.tup [.int (q.2 : Int), q.1])[i]? = some (.tup [.int (i : Int), pSI (order row)[i]]) := by
          simp [hq]
        rw [this] at hp
        exact (Option.some.inj hp).symm
      subst hp2
      have hm : (order row)[i] ∈ order row := List.getElem_mem hlt
      have hstep : sets ((order row).take (i + 1)) 0 (List.replicate row.length 0) = (sets ((order row).take i) 0 (List.replicate row.length 0)).set (order row)[i].2 i := by
        rw [List.take_add_one, hq]
        show sets ((order row).take i ++ [(order row)[i]]) 0 _ = _
        rw [sets_snoc, List.length_take, Nat.zero_add]
        congr 1
        omega
      have hj := order_lt hm
      have hfl : (sets ((order row).take i) 0 (List.replicate row.length 0)).length = row.length := by rw [sets_len]; simp
      rw [hstep]
      generalize (order row)[i] = q at *
      obtain ⟨a, j⟩ := q
      generalize sets ((order row).take i) 0 (List.replicate row.length 0) = T at *
      have hix : ixP (nat2 T).length (j : Int) = some j := ix_nat (by rw [nat2_len, hfl]; exact hj)
      have hset := nat2_set T j i
      generalize (order row).map pSI = X at *
      simp -implicitDefEqProofs [stepFf, pSI, hix, hset]
    · obtain ⟨x, y, z, rfl⟩ := hi
      refine hR _ ⟨x, y, z, ?_⟩
      have : (((order row).map pSI).zipIdx.map fun q => P.tup [.int (q.2 : Int), q.1]).length = (order row).length := by simp
      rw [this, List.take_length]
      rfl
  obtain ⟨x, y, z, rfl⟩ := hr
  simp -implicitDefEqProofs [asgTs, asgT]
theorem idx_nat2 (k : Nat) : ∀ l : List Nat, k ∈ l → idxOf (.int (k : Int)) (nat2 l) = some (ixOf k l)
  | [], h => nomatch h
  | x :: xs, h => by
    show (if peq (.int (x : Int)) (.int (k : Int)) then some 0 else (idxOf (.int (k : Int)) (nat2 xs)).map (· + 1)) = _
    rw [eqv_int]
    unfold ixOf
    rw [beq_is]
    by_cases q : x = k
    · subst q; simp
    · have hq : ¬ (x : Int) = (k : Int) := by omega
      have hm : k ∈ xs := (List.mem_cons.mp h).elim (fun e => absurd e.symm q) id
      rw [idx_nat2 k xs hm]
      simp [q, hq]
theorem depths_nat2 : ∀ l : List Nat, depths (nat2 l) = 0
  | [] => rfl
  | x :: xs => by
    show max (depth (.int (x : Int))) (depths (nat2 xs)) = 0
    rw [depths_nat2 xs] <;> rfl
theorem c_lsteps (k : Nat) (row : List Nat) (hl : row.length ≤ 1000) : callF prog G (k + 1) 24 [.imm (.str row)] = some (.lst (nat2 (stepsL row)), [.imm (.str row)]) := by
  refine wp_is (call_wp (fn := f__law_steps) rfl rfl ?_)
  have hll : row.length ≤ line := le_lineN (by omega)
  have hit := it_rng1 (show row.length ≤ 1000000 by omega)
  simp only [f__law_steps, b__law_steps]
  refine wp_seq (fun r => r = (.nx, [some (.imm (.str row)), some (.lst ((order row).map pSI)), none, none, none])) (fun R hR => ?_) fun r hr => ?_
  · simp -implicitDefEqProofs [so_lenS hll, hit]
    refine wp_eq (comp_map (fun k : Nat => P.int (k : Int)) (fun k => pSI (row.getD k 0, k)) (fun _ => true) (by rw [List.length_range]; exact hll) fun j hj acc hacc => ?_) ?_
    · have hj : j < row.length := List.mem_range.mp hj
      have e1 : opSem .idx [.imm (.str row), .imm (.int (j : Int))] = some (.imm (.str [row.getD j 0])) := by
        rw [so_idxS hll, at_nat hj, List.getD_eq_getElem?_getD, List.getElem?_eq_getElem hj] <;> rfl
      have e6 : (2 : Nat) ≤ line := le_lineN (by omega)
      generalize row.getD j 0 = c at *
      simp -implicitDefEqProofs [stepCc, hacc, e1, e6, pSI]
    · rw [map_true, show (List.range row.length).map (fun k => pSI (row.getD k 0, k)) = (row.zip (List.range row.length)).map pSI by rw [← getD_rng, List.map_map] <;> rfl]
      have hs := so_sortP (l := row.zip (List.range row.length)) (by simp; exact hll)
      have ho : isort pairlt (row.zip (List.range row.length)) = order row := rfl
      rw [ho] at hs
      generalize (row.zip (List.range row.length)).map pSI = x at *
      simp -implicitDefEqProofs [hs]
      exact hR _ rfl
  subst hr
  refine wp_seq (fun r => r = (.nx, [some (.imm (.str row)), some (.lst ((order row).map pSI)), some (.lst (nat2 ((order row).map (·.2)))), none, none])) (fun R hR => ?_) fun r hr => ?_
  · simp -implicitDefEqProofs
    refine wp_eq (comp_map pSI (fun q : Nat × Nat => P.int (q.2 : Int)) (fun _ => true) (by rw [order_len]; exact hll) fun q hq acc hacc => ?_) ?_
    · simp -implicitDefEqProofs [stepCc, hacc, pSI]
    · rw [map_true, show (order row).map (fun q : Nat × Nat => P.int (q.2 : Int)) = nat2 ((order row).map (·.2)) by unfold nat2; rw [List.map_map] <;> rfl]
      generalize (order row).map pSI = X at *
      simp -implicitDefEqProofs
      exact hR _ rfl
  subst hr
  simp -implicitDefEqProofs [so_lenS hll, hit]
  refine wp_eq (comp_map (fun k : Nat => P.int (k : Int)) (fun k => P.int ((ixOf k ((order row).map (·.2)) : Nat) : Int)) (fun _ => true) (by rw [List.length_range]; exact hll) fun j hj acc hacc => ?_) ?_
  · have hj : j < row.length := List.mem_range.mp hj
    have hm : j ∈ (order row).map (·.2) := by
      have h1 : (row.getD j 0, j) ∈ order row := (order_perm row).mem_iff.mpr (by rw [← getD_rng]; exact List.mem_map.mpr ⟨j, List.mem_range.mpr hj, rfl⟩)
      exact List.mem_map.mpr ⟨_, h1, rfl⟩
    have e1 := idx_nat2 j _ hm
    have e2 : opSem .index [.lst (nat2 ((order row).map (·.2))), .imm (.int (j : Int))] = some (.imm (.int ((ixOf j ((order row).map (·.2)) : Nat) : Int))) := by
      simp only [opSem, opIndex]
      rw [if_pos (by rw [depths_nat2]; simp), e1] <;> rfl
    generalize nat2 ((order row).map (·.2)) = x at *
    generalize ixOf j ((order row).map (·.2)) = y at *
    generalize (order row).map pSI = X at *
    simp -implicitDefEqProofs [stepCc, rcvOk, hacc, e2]
  · rw [map_true, show (List.range row.length).map (fun k => P.int ((ixOf k ((order row).map (·.2)) : Nat) : Int)) = nat2 (stepsL row) by unfold nat2 stepsL; rw [List.map_map] <;> rfl]
theorem circ_lt {s : List Nat} {p n : Nat} (hn : s.length = n) (hv : ∀ x ∈ s, x < n) : ∀ (f c : Nat), c < n → ∀ x ∈ circ s p f c, x < n
  | 0, c, hc, x, hx => by
    rw [List.mem_singleton.mp hx]; exact hc
  | f + 1, c, hc, x, hx => by
    unfold circ at hx
    have hs : s.getD c 0 < n := by
      rw [List.getD_eq_getElem?_getD, List.getElem?_eq_getElem (by omega)]
      exact hv _ (List.getElem_mem _)
    cases q : Nat.beq (s.getD c 0) p with
    | true => rw [q] at hx; rw [List.mem_singleton.mp hx]; exact hc
    | false =>
      rw [q] at hx
      rcases List.mem_cons.mp hx with rfl | hx
      · exact hc
      · exact circ_lt hn hv f _ hs x hx
theorem circ_len {s : List Nat} {p : Nat} : ∀ (f c : Nat), (circ s p f c).length ≤ f + 1
  | 0, c => by simp [circ]
  | f + 1, c => by
    unfold circ
    have := circ_len (s := s) (p := p) f (s.getD c 0)
    cases Nat.beq (s.getD c 0) p with
    | true => show ([c] : List Nat).length ≤ _; simp
    | false => show (c :: circ s p f (s.getD c 0)).length ≤ _; rw [List.length_cons]; omega
theorem c_circ (k : Nat) (s : List Nat) (p n : Nat) (hn : s.length = n) (hv : ∀ x ∈ s, x < n) (hl : n ≤ 1000) (hp : p < n) (hok : circOk s p n p = true) :
    callF prog G (k + 1) 4 [.lst (nat2 s), .imm (.int (p : Int))] = some (.lst (nat2 (circ s p n p)), [.lst (nat2 s), .imm (.int (p : Int))]) := by
  refine wp_is (call_wp (fn := f_circle_from) rfl rfl ?_)
  simp only [f_circle_from, b_circle_from]
  have e6 : (1 : Nat) ≤ line := le_lineN (by omega)
  refine wp_seq (fun r => r = (.nx, [some (.lst (nat2 s)), some (.imm (.int (p : Int))), some (.lst (nat2 [p]))])) (fun R hR => ?_) fun r hr => ?_
  · simp -implicitDefEqProofs [e6]
    exact hR _ rfl
  subst hr
  refine wp_seq (fun r => r = (.nx, [some (.lst (nat2 s)), some (.imm (.int (p : Int))), some (.lst (nat2 (circ s p n p)))])) (fun R hR => ?_) fun r hr => ?_
  · rw [sx_whl]
    refine wp_whl (fun m e => ∃ (pre : List Nat) (c : Nat), c < n ∧ circOk s p m c = true ∧ pre ++ circ s p m c = circ s p n p ∧ pre.length + m ≤ n ∧ e = [some (.lst (nat2 s)), some (.imm (.int (p : Int))), some (.lst (nat2 (pre ++ [c])))]) (m := n) ⟨[], p, hp, hok, rfl, by simp, rfl⟩ (show n < 1000000000 by omega) fun m e hi => ?_
    obtain ⟨pre, c, hc, ho, hcc, hpl, rfl⟩ := hi
    cases m with
    | zero => simp [circOk] at ho
    | succ m =>
      have hgs : s[c]? = some (s.getD c 0) := by rw [List.getD_eq_getElem?_getD, List.getElem?_eq_getElem (by omega)] <;> rfl
      have hsc : s.getD c 0 < n := hv _ (List.mem_of_getElem? hgs)
      have e1 : atP (nat2 (pre ++ [c])) (-1) = some (.int (c : Int)) := by
        rw [at_last (by simp [nat2])]
        rw [← nat2_snoc]
        simp
      have e2 : atP (nat2 s) (c : Int) = some (.int ((s.getD c 0 : Nat) : Int)) := nat2_get hgs
      have hcu : circ s p (m + 1) c = bif Nat.beq (s.getD c 0) p then [c] else c :: circ s p m (s.getD c 0) := rfl
      have hou : circOk s p (m + 1) c = bif Nat.beq (s.getD c 0) p then true else circOk s p m (s.getD c 0) := rfl
      rw [hcu] at hcc
      rw [hou] at ho
      have hlen : (nat2 (pre ++ [c])).length < line := lt_lineN (by rw [nat2_len]; simp; omega)
      have hsn := nat2_snoc (pre ++ [c]) (s.getD c 0)
      rw [beq_is] at ho hcc
      generalize s.getD c 0 = d at *
      by_cases hd : d = p
      · rw [decide_eq_true hd] at hcc
        have hcc : pre ++ [c] = circ s p n p := hcc
        rw [hcc] at e1 ⊢
        have hd2 : ((d : Int) = (p : Int)) = True := eq_true (by omega)
        generalize nat2 (circ s p n p) = X at *
        generalize nat2 s = Y at *
        simp -implicitDefEqProofs [stepWw, e1, e2, hd2]
        exact hR _ rfl
      · rw [decide_eq_false hd] at hcc ho
        have hcc : pre ++ (c :: circ s p m d) = circ s p n p := hcc
        have ho : circOk s p m d = true := ho
        have hd2 : ((d : Int) = (p : Int)) = False := eq_false (by omega)
        have hap := mu_app (p := .int (d : Int)) hlen
        rw [hsn] at hap
        have hgoal : ∃ m', m' < m + 1 ∧ ∃ (pre2 : List Nat) (c2 : Nat), c2 < n ∧ circOk s p m' c2 = true ∧ pre2 ++ circ s p m' c2 = circ s p n p ∧ pre2.length + m' ≤ n ∧ [some (D.lst (nat2 s)), some (.imm (.int (p : Int))), some (.lst (nat2 (pre ++ [c] ++ [d])))] = [some (.lst (nat2 s)), some (.imm (.int (p : Int))), some (.lst (nat2 (pre2 ++ [c2])))] := ⟨m, Nat.lt_succ_self m, pre ++ [c], d, hsc, ho, by rw [List.append_assoc]; exact hcc, by simp; omega, rfl⟩
        generalize nat2 (pre ++ [c] ++ [d]) = Z at *
        generalize nat2 (pre ++ [c]) = X at *
        refine wp_stepT (e' := [some (.lst (nat2 s)), some (.imm (.int (p : Int))), some (.lst X)]) ?_ ?_
        · generalize nat2 s = Y at *
          simp -implicitDefEqProofs [tst, e1, e2, hd2]
        · have key : exs (callF prog G k) G [.ex (.mut .append 2 [(.op .idx [(.nm 0), (.op .idx [(.nm 2), (.op .neg [(.cst (.int 1))])])])])] [some (.lst (nat2 s)), some (.imm (.int (p : Int))), some (.lst X)] = some (.nx, [some (.lst (nat2 s)), some (.imm (.int (p : Int))), some (.lst Z)]) := by
            clear hgoal hcc
            generalize nat2 s = Y at *
            simp -implicitDefEqProofs [e1, e2, hap]
          exact wp_eq key hgoal
  subst hr
  generalize nat2 (circ s p n p) = X at *
  generalize nat2 s = Y at *
  simp -implicitDefEqProofs [asgTs, asgT]
end Sw.k45
namespace Sw.k45
theorem allR_of {f : Nat → Bool} : ∀ {n : Nat}, allR f n = true → ∀ k, k < n → f k = true
  | 0, _, k, hk => absurd hk (Nat.not_lt_zero k)
  | n + 1, h, k, hk => by
    unfold allR at h
    cases q : f n with
    | false => rw [q] at h; cases h
    | true =>
      rw [q] at h
      rcases Nat.lt_or_ge k n with h2 | h2
      · exact allR_of h k h2
      · obtain rfl : k = n := by omega
        exact q
theorem mem_is (k : Nat) : ∀ l : List Nat, mem k l = true ↔ k ∈ l
  | [] => by simp [mem]
  | x :: xs => by
    unfold mem
    rw [beq_is]
    by_cases h : x = k
    · subst h; simp
    · simp only [decide_eq_false h, cond_false, mem_is k xs, List.mem_cons]
      exact ⟨.inr, fun q => q.elim (fun e => absurd e.symm h) id⟩
theorem eqbs_iff : ∀ {a b : List (List Nat)}, eqbs a b = true → a = b
  | [], [], _ => rfl
  | [], _ :: _, h => by simp [eqbs] at h
  | _ :: _, [], h => by simp [eqbs] at h
  | x :: xs, y :: ys, h => by
    unfold eqbs at h
    cases q : eqb x y with
    | false => rw [q] at h; cases h
    | true =>
      rw [q] at h
      rw [eqb_iff.mp q, eqbs_iff h]
theorem pap_iff : ∀ {a b : Pap}, a.eqb b = true → a = b
  | .parted i j, .parted k l, h => by
    simp only [Pap.eqb, Bool.and_eq_true] at h
    rw [Nat.eq_of_beq_eq_true h.1, Nat.eq_of_beq_eq_true h.2]
  | .turned a, .turned b, h => by rw [eqb_iff.mp h]
  | .parted _ _, .turned _, h => by cases h
  | .turned _, .parted _ _, h => by cases h
/-- what is known of a row -/
structure GR (row : List Nat) : Prop where
  n1 : 1 ≤ row.length
  n6 : row.length ≤ 6
  seq : stepsP row = stepsL row
  sv : ∀ x ∈ stepsP row, x < row.length
  sl : (stepsP row).length = row.length
  ck : ∀ k, k < row.length → circOk (stepsP row) k row.length k = true ∧ wordP row (stepsP row) k = wordL row (stepsP row) k ∧ leastP (wordP row (stepsP row) k) = leastL (wordP row (stepsP row) k) ∧ wordP row (stepsP row) k ≠ [] ∧ ∀ v, readP row k = some v → v.length = row.length ∧ ∀ c ∈ v, c ∈ row
  pp : paperP row = paperL row
  pt : ∀ v, paperL row = .turned v → leastP v = v ∧ (turn v).1 = row ∧ v.length = row.length ∧ ∀ c ∈ v, c ∈ row
  nb : bySize (neckP row) = neckP row
  ns : isort nlt (neckP row).flatten = isort nlt row
  nr : rowOf (neckP row) = row
  nw : ∀ w ∈ neckP row, w = leastL w ∧ noPer w = true ∧ w ≠ [] ∧ w.length ≤ row.length
  nl : (neckP row).length ≤ row.length
  n0 : neckP row ≠ []
theorem gr_of {row : List Nat} (h1 : 1 ≤ row.length) (h6 : row.length ≤ 6) (h : okR row = true) : GR row := by
  unfold okR at h
  simp only [fis_eq, fcs_eq, fcss_eq, turnK_eq, Bool.and_eq_true] at h
  obtain ⟨⟨⟨⟨⟨q1, q2⟩, q3⟩, q4⟩, q5⟩, ⟨⟨⟨⟨q6, q7⟩, q8⟩, q9⟩, q10⟩, q11⟩ := h
  have e1 := eqb_iff.mp q1
  refine ⟨h1, h6, e1, fun x hx => ?_, Nat.eq_of_beq_eq_true q3, fun k hk => ?_, ?_, fun v hv => ?_, eqbs_iff q6, eqb_iff.mp q7, eqb_iff.mp q8, fun w hw => ?_, Nat.le_of_ble_eq_true q10, fun e => by rw [e] at q11; cases q11⟩
  · have := List.all_eq_true.mp q2 x hx
    rw [blt_is] at this
    exact of_decide_eq_true this
  · have := allR_of q4 k hk
    simp only [Bool.and_eq_true] at this
    obtain ⟨⟨z1, ⟨z2, z3⟩, z4⟩, z5⟩ := this
    refine ⟨z1, eqb_iff.mp z2, eqb_iff.mp z3, (fun e => by rw [e] at z4; cases z4), fun v hv => ?_⟩
    rw [hv] at z5
    simp only [Bool.and_eq_true] at z5
    exact ⟨Nat.eq_of_beq_eq_true z5.1, fun c hc => (mem_is c row).mp (List.all_eq_true.mp z5.2 c hc)⟩
  · cases e : paperL row with
    | parted i j => rw [e] at q5; exact pap_iff q5
    | turned v =>
      rw [e] at q5
      simp only [Bool.and_eq_true] at q5
      exact pap_iff q5.1.1.1.1
  · rw [hv] at q5
    simp only [Bool.and_eq_true] at q5
    obtain ⟨⟨⟨⟨z1, z2⟩, z3⟩, z4⟩, z5⟩ := q5
    exact ⟨eqb_iff.mp z2, eqb_iff.mp z3, Nat.eq_of_beq_eq_true z4, fun c hc => (mem_is c row).mp (List.all_eq_true.mp z5 c hc)⟩
  · have := List.all_eq_true.mp q9 w hw
    simp only [Bool.and_eq_true] at this
    obtain ⟨⟨⟨z1, z2⟩, z3⟩, z4⟩ := this
    exact ⟨eqb_iff.mp z1, z2, (fun e => by rw [e] at z3; cases z3), Nat.le_of_ble_eq_true z4⟩
theorem times_is (w : List Nat) : ∀ n, times w n = (List.replicate n w).flatten
  | 0 => rfl
  | n + 1 => by
    unfold times
    rw [times_is w n, List.replicate_succ, List.flatten_cons]
theorem times_len (w : List Nat) (n : Nat) : (times w n).length = n * w.length := by
  rw [times_is]
  simp
theorem minW_mem (ps : List (List Nat)) (p : List Nat) : minW p ps ∈ p :: ps := by
  rcases (fold_min ps p).1 with h | h
  · rw [h]; exact List.mem_cons_self
  · exact List.mem_cons_of_mem _ h
theorem leastP_mem {w : List Nat} (h : w ≠ []) : leastP w ∈ rots w := by
  obtain ⟨p, ps, e⟩ := rots_cons h
  have e2 : leastP w = minW p ps := by unfold leastP; rw [fcss_eq, e] <;> rfl
  rw [e2, e]
  exact minW_mem ps p
theorem leastP_len {w : List Nat} (h : w ≠ []) : (leastP w).length = w.length := (rots_mem (leastP_mem h)).1
theorem leastL_mem {w : List Nat} (h : w ≠ []) : leastL w ∈ rots w := by
  have e2 : leastL w = (isort ltb (rots w)).headD [] := by unfold leastL; rw [fcss_eq]
  rw [e2]
  cases e : isort ltb (rots w) with
  | nil =>
    have := (isort_perm (lt := ltb) (rots w)).length_eq
    rw [e, rots_len] at this
    exact absurd (List.length_eq_zero_iff.mp this.symm) h
  | cons p ps =>
    rw [List.headD_cons]
    exact (isort_perm (lt := ltb) (rots w)).mem_iff.mp (by rw [e]; exact List.mem_cons_self)
theorem leastL_len {w : List Nat} (h : w ≠ []) : (leastL w).length = w.length := (rots_mem (leastL_mem h)).1
theorem wordP_len {row : List Nat} (p : Nat) (s : List Nat) : (wordP row s p).length ≤ row.length + 1 := by
  unfold wordP
  rw [List.length_reverse, List.length_map]
  exact circ_len _ _
theorem getD_chr {row : List Nat} {j : Nat} (hj : j < row.length) (hl : row.length ≤ line) : opSem .idx [.imm (.str row), .imm (.int (j : Int))] = some (.imm (.str [row.getD j 0])) := by
  rw [so_idxS hl, at_nat hj, List.getD_eq_getElem?_getD, List.getElem?_eq_getElem hj] <;> rfl
theorem c_wordof (k : Nat) (row s : List Nat) (p : Nat) (hl : row.length ≤ 1000) (hn : s.length = row.length) (hv : ∀ x ∈ s, x < row.length) (hp : p < row.length) (hok : circOk s p row.length p = true) :
    callF prog G (k + 2) 5 [.imm (.str row), .lst (nat2 s), .imm (.int (p : Int))] = some (.imm (.str (wordP row s p)), [.imm (.str row), .lst (nat2 s), .imm (.int (p : Int))]) := by
  refine wp_is (call_wp (fn := f_word_of) rfl rfl ?_)
  have hll : row.length ≤ line := le_lineN (by omega)
  have e1 := c_circ k s p row.length hn hv hl hp hok
  have hlt := circ_lt (p := p) hn hv row.length p hp
  have hcl := circ_len (s := s) (p := p) row.length p
  have hz : wordP row s p = ((circ s p row.length p).map fun k => row.getD k 0).reverse := rfl
  generalize wordP row s p = z at *
  generalize circ s p row.length p = C at *
  generalize hY : nat2 s = Y at *
  simp -implicitDefEqProofs [f_word_of, b_word_of, rcvOk, e1]
  refine wp_eq (comp_map (fun k : Nat => P.int (k : Int)) (fun k => P.str [row.getD k 0]) (fun _ => true) (l := C) (le_lineN (by omega)) fun j hj acc hacc => ?_) ?_
  · have e2 := getD_chr (hlt j hj) hll
    generalize row.getD j 0 = c at *
    simp -implicitDefEqProofs [stepCc, e2, hacc]
  · rw [map_true]
    have hj : opSem .join [.imm (.str []), .lst (C.map fun k => P.str [row.getD k 0])] = some (.imm (.str (C.map fun k => row.getD k 0))) := by
      have := so_joinC (w := C.map fun k => row.getD k 0) (le_lineN (by rw [List.length_map]; omega))
      simpa [List.map_map, Function.comp_def] using this
    have hr := so_revS (s := C.map fun k => row.getD k 0) (le_lineN (by rw [List.length_map]; omega))
    generalize (C.map fun k => P.str [row.getD k 0]) = x at *
    rw [← hz] at hr
    clear hz
    generalize (C.map fun k => row.getD k 0) = y at *
    simp -implicitDefEqProofs [rcvOk, hj, hr, asgTs, asgT]
theorem circL_len {row s : List Nat} {p : Nat} : ∀ (f : Nat) (w : List Nat) (c : Nat), (circL row s p f w c).length ≤ w.length + f
  | 0, w, c => Nat.le_refl _
  | f + 1, w, c => by
    unfold circL
    have := circL_len (row := row) (s := s) (p := p) f (row.getD c 0 :: w) (s.getD c 0)
    cases Nat.beq (s.getD c 0) p with
    | true => show (row.getD c 0 :: w).length ≤ _; rw [List.length_cons]; omega
    | false =>
      show (circL row s p f (row.getD c 0 :: w) (s.getD c 0)).length ≤ _
      rw [List.length_cons] at this
      omega
theorem c_lcircle (k : Nat) (row : List Nat) (p : Nat) (hl : row.length ≤ 1000) (hn : (stepsL row).length = row.length) (hv : ∀ x ∈ stepsL row, x < row.length) (hp : p < row.length) :
    callF prog G (k + 2) 25 [.imm (.str row), .imm (.int (p : Int))] = some (.imm (.str (wordL row (stepsL row) p)), [.imm (.str row), .imm (.int (p : Int))]) := by
  refine wp_is (call_wp (fn := f__law_circle) rfl rfl ?_)
  have hll : row.length ≤ line := le_lineN (by omega)
  have e1 := c_lsteps k row hl
  simp only [f__law_circle, b__law_circle]
  refine wp_seq (fun r => r = (.nx, [some (.imm (.str row)), some (.imm (.int (p : Int))), some (.lst (nat2 (stepsL row))), none, none, none])) (fun R hR => ?_) fun r hr => ?_
  · simp -implicitDefEqProofs [e1]
    exact hR _ rfl
  subst hr
  unfold wordL
  generalize stepsL row = s at *
  refine wp_seq (fun r => r = (.nx, [some (.imm (.str row)), some (.imm (.int (p : Int))), some (.lst (nat2 s)), none, some (.imm (.str [])), some (.imm (.int (p : Int)))])) (fun R hR => ?_) fun r hr => ?_
  · simp -implicitDefEqProofs
    exact hR _ rfl
  subst hr
  refine wp_seq (fun r => ∃ x y, r = (.nx, [some (.imm (.str row)), some (.imm (.int (p : Int))), some (.lst (nat2 s)), x, some (.imm (.str (circL row s p row.length [] p))), y])) (fun R hR => ?_) fun r hr => ?_
  · simp -implicitDefEqProofs [so_lenS hll, it_rng1 (show row.length ≤ 1000000 by omega)]
    refine wp_for (fun i e => ∃ (x : Option D) (w : List Nat) (c : Nat), i ≤ row.length ∧ c < row.length ∧ w.length ≤ i ∧ circL row s p (row.length - i) w c = circL row s p row.length [] p ∧ e = [some (.imm (.str row)), some (.imm (.int (p : Int))), some (.lst (nat2 s)), x, some (.imm (.str w)), some (.imm (.int (c : Int)))]) ⟨none, [], p, Nat.zero_le _, hp, Nat.le_refl _, rfl, rfl⟩ (fun i q e hq hi => ?_) (fun e hi => ?_)
    · obtain ⟨x, w, c, hil, hc, hw, hcc, rfl⟩ := hi
      obtain ⟨hin, rfl⟩ := rng_get hq
      have hgs : s[c]? = some (s.getD c 0) := by rw [List.getD_eq_getElem?_getD, List.getElem?_eq_getElem (by omega)] <;> rfl
      have hsc : s.getD c 0 < row.length := hv _ (List.mem_of_getElem? hgs)
      have e2 : atP (nat2 s) (c : Int) = some (.int ((s.getD c 0 : Nat) : Int)) := nat2_get hgs
      have e3 := getD_chr hc hll
      have e4 : opSem .add [.imm (.str [row.getD c 0]), .imm (.str w)] = some (.imm (.str (row.getD c 0 :: w))) := so_adds (le_lineN (by simp; omega))
      obtain ⟨m, hm⟩ : ∃ m, row.length - i = m + 1 := ⟨row.length - i - 1, by omega⟩
      have hm2 : row.length - (i + 1) = m := by omega
      rw [hm] at hcc
      have hcu : circL row s p (m + 1) w c = bif Nat.beq (s.getD c 0) p then row.getD c 0 :: w else circL row s p m (row.getD c 0 :: w) (s.getD c 0) := rfl
      rw [hcu, beq_is] at hcc
      rw [hm2]
      have hwl : (row.getD c 0 :: w).length ≤ i + 1 := by rw [List.length_cons]; omega
      generalize row.getD c 0 :: w = w2 at *
      generalize row.getD c 0 = a at *
      generalize s.getD c 0 = d at *
      by_cases hd : d = p
      · rw [decide_eq_true hd] at hcc
        have hcc : w2 = circL row s p row.length [] p := hcc
        rw [← hcc] at hR
        have hd2 : ((d : Int) = (p : Int)) = True := eq_true (by omega)
        generalize nat2 s = Y at *
        simp -implicitDefEqProofs [stepFf, e2, e3, e4, hd2]
        exact hR _ ⟨_, _, rfl⟩
      · rw [decide_eq_false hd] at hcc
        have hcc : circL row s p m w2 d = circL row s p row.length [] p := hcc
        have hd2 : ((d : Int) = (p : Int)) = False := eq_false (by omega)
        generalize circL row s p row.length [] p = Z at *
        have hgoal : ∃ (x : Option D) (w : List Nat) (c : Nat), i + 1 ≤ row.length ∧ c < row.length ∧ w.length ≤ i + 1 ∧ circL row s p m w c = Z ∧ [some (D.imm (.str row)), some (.imm (.int (p : Int))), some (.lst (nat2 s)), some (.imm (.int (i : Int))), some (.imm (.str w2)), some (.imm (.int (d : Int)))] = [some (.imm (.str row)), some (.imm (.int (p : Int))), some (.lst (nat2 s)), x, some (.imm (.str w)), some (.imm (.int (c : Int)))] := ⟨_, w2, d, hin, hsc, hwl, hcc, rfl⟩
        generalize nat2 s = Y at *
        simp -implicitDefEqProofs [stepFf, e2, e3, e4, hd2]
        simpa using hgoal
    · obtain ⟨x, w, c, hil, hc, hw, hcc, rfl⟩ := hi
      rw [List.length_map, List.length_range, Nat.sub_self] at hcc
      have hcc : w = circL row s p row.length [] p := hcc
      rw [← hcc] at hR
      exact hR _ ⟨_, _, rfl⟩
  obtain ⟨x, y, rfl⟩ := hr
  generalize circL row s p row.length [] p = Z at *
  generalize nat2 s = Y at *
  simp -implicitDefEqProofs [asgTs, asgT]
end Sw.k45
namespace Sw.k45
def optS : Option (List Nat) → P
  | none => .non
  | some v => .str v
theorem eq_pairs (a b : List Nat) (i j : Int) : opSem .eq [.imm (.tup [.str a, .int i]), .imm (.tup [.str b, .int j])] = some (.imm (.bl (decide (a = b) && decide (i = j)))) := by
  simp only [opSem, cmpEq, rd, depth, depths, isDic]
  rw [if_pos (by simp)]
  simp only [peq, peqs, Option.bind_some, ib]
  by_cases h : a = b <;> by_cases h2 : i = j <;> simp [h, h2]
theorem c_read (k : Nat) (row : List Nat) (g : GR row) (p : Nat) : callF prog G (k + 3) 6 [.imm (.str row), .imm (.int (p : Int))] = some (.imm (optS (readP row p)), [.imm (.str row), .imm (.int (p : Int))]) := by
  refine wp_is (call_wp (fn := f_read_turned) rfl rfl ?_)
  have h6 := g.n6
  have h1 := g.n1
  have hll : row.length ≤ line := le_lineN (by omega)
  have hlen := so_lenS hll
  simp only [f_read_turned, b_read_turned]
  by_cases hp : row.length ≤ p
  · have e : readP row p = none := by
      unfold readP
      rw [Nat.ble_eq.mpr hp] <;> rfl
    have hp2 : ((row.length : Int) ≤ (p : Int)) = True := eq_true (by omega)
    rw [e]
    simp -implicitDefEqProofs [hlen, hp2, optS, asgTs, asgT]
  · have hp2 : ((row.length : Int) ≤ (p : Int)) = False := eq_false (by omega)
    have hpl : p < row.length := by omega
    obtain ⟨z1, _, _, z4, _⟩ := g.ck p hpl
    have e1 := c_steps (k + 1) row (by omega)
    have e2 := c_wordof k row (stepsP row) p (by omega) g.sl g.sv hpl z1
    have hwl := wordP_len (row := row) p (stepsP row)
    have er : readP row p = bif Nat.beq (row.length % (wordP row (stepsP row) p).length) 0 then (bif eqb (turn (times (wordP row (stepsP row) p) (row.length / (wordP row (stepsP row) p).length))).1 row && Nat.beq (turn (times (wordP row (stepsP row) p) (row.length / (wordP row (stepsP row) p).length))).2 p then some (times (wordP row (stepsP row) p) (row.length / (wordP row (stepsP row) p).length)) else none) else none := by
      unfold readP
      rw [show Nat.ble row.length p = false from Bool.eq_false_iff.mpr fun q => hp (Nat.le_of_ble_eq_true q)]
      simp only [cond_false, fis_eq, fcs_eq, turnK_eq]
    generalize stepsP row = s at *
    generalize wordP row s p = w at *
    have hwll : w.length ≤ line := le_lineN (by omega)
    have hw0 : 0 < w.length := List.length_pos_iff.mpr z4
    have hlen2 := so_lenS hwll
    have hmod := so_modN (a := row.length) (b := w.length) hw0
    have hdiv := so_fdivN (a := row.length) (b := w.length) hw0 (by omega)
    generalize hY : nat2 s = Y at *
    refine wp_seq (fun r => r = (.nx, [some (.imm (.str row)), some (.imm (.int (p : Int))), none, none])) (fun R hR => ?_) fun r hr => ?_
    · simp -implicitDefEqProofs [hlen, hp2]
      exact hR _ rfl
    subst hr
    refine wp_seq (fun r => r = (.nx, [some (.imm (.str row)), some (.imm (.int (p : Int))), some (.lst Y), none])) (fun R hR => ?_) fun r hr => ?_
    · simp -implicitDefEqProofs [e1]
      exact hR _ rfl
    subst hr
    refine wp_seq (fun r => r = (.nx, [some (.imm (.str row)), some (.imm (.int (p : Int))), some (.lst Y), some (.imm (.str w))])) (fun R hR => ?_) fun r hr => ?_
    · simp -implicitDefEqProofs [e2]
      exact hR _ rfl
    subst hr
    rw [er]
    rw [beq_is]
    by_cases hm : row.length % w.length = 0
    · rw [decide_eq_true hm, cond_true]
      have hm2 : (((row.length % w.length : Nat) : Int) = 0) = True := eq_true (by omega)
      have hql : row.length / w.length ≤ row.length := Nat.div_le_self _ _
      have hmul := so_mulW (s := w) (n := row.length / w.length) (le_lineN (Nat.le_trans (Nat.mul_le_mul (show w.length ≤ 7 by omega) (show row.length / w.length ≤ 6 by omega)) (by decide))) (by omega)
      rw [← times_is] at hmul
      have hvl : (times w (row.length / w.length)).length ≤ 1000 := by
        rw [times_len]
        exact Nat.le_trans (Nat.mul_le_mul (show row.length / w.length ≤ 6 by omega) (show w.length ≤ 7 by omega)) (by decide)
      generalize times w (row.length / w.length) = v at *
      have e3 := c_turn k v hvl
      have e6 : (2 : Nat) ≤ line := le_lineN (by omega)
      have heq := eq_pairs (turn v).1 row ((turn v).2 : Int) (p : Int)
      unfold tW at e3
      rw [eqb_is, beq_is]
      have hk : decide (((turn v).2 : Int) = (p : Int)) = decide ((turn v).2 = p) := by
        by_cases h : (turn v).2 = p
        · rw [h]; simp
        · rw [decide_eq_false h, decide_eq_false (by omega)]
      rw [hk] at heq
      generalize row.length / w.length = d at *
      generalize row.length % w.length = m at *
      refine wp_seq (fun r => r = (.nx, [some (.imm (.str row)), some (.imm (.int (p : Int))), some (.lst Y), some (.imm (.str w))])) (fun R hR => ?_) fun r hr => ?_
      · simp -implicitDefEqProofs [hlen, hlen2, hmod, hm]
        exact hR _ rfl
      subst hr
      refine wp_seq (fun r => r = (.nx, [some (.imm (.str row)), some (.imm (.int (p : Int))), some (.lst Y), some (.imm (.str v))])) (fun R hR => ?_) fun r hr => ?_
      · simp -implicitDefEqProofs [hlen, hlen2, hdiv, hmul]
        exact hR _ rfl
      subst hr
      generalize (turn v).1 = t1 at *
      generalize (turn v).2 = t2 at *
      generalize (decide (t1 = row) && decide (t2 = p)) = B at *
      cases B
      · simp -implicitDefEqProofs [e3, e6, heq, optS, asgTs, asgT]
      · simp -implicitDefEqProofs [e3, e6, heq, optS, asgTs, asgT]
    · rw [decide_eq_false hm, cond_false]
      have hm2 : (((row.length % w.length : Nat) : Int) = 0) = False := eq_false (by omega)
      generalize row.length % w.length = m at *
      simp -implicitDefEqProofs [hlen, hlen2, hmod, hm, optS, asgTs, asgT]
/-! the first that differ -/
theorem unl1_is (ws : List (List Nat)) (i : Nat) : ∀ js, unl1 ws i js = js.findSome? fun j => if ws.getD i [] = ws.getD j [] then none else some (i, j)
  | [] => rfl
  | j :: js => by
    unfold unl1
    rw [eqb_is, List.findSome?_cons, unl1_is ws i js]
    by_cases h : ws.getD i [] = ws.getD j []
    · rw [decide_eq_true h, if_pos h] <;> rfl
    · rw [decide_eq_false h, if_neg h] <;> rfl
theorem unl_is (ws : List (List Nat)) : ∀ is, unl ws is = is.findSome? fun i => unl1 ws i ((List.range (ws.length - (i + 1))).map (i + 1 + ·))
  | [] => rfl
  | i :: is => by
    unfold unl
    rw [List.findSome?_cons, unl_is ws is]
    split <;> simp_all
theorem for_find {α : Type} {step : P → En → Option (Fl × En)} {ok : En → Bool} {Q : Fl × En → Prop} (f : α → P) (g : α → Option D) (I F : En → Prop) :
    ∀ {l : List α} {e : En}, I e → (∀ a ∈ l, ∀ e, I e → wp (step (f a) e) fun r => match g a with
      | none => r.1 = .nx ∧ ok r.2 = true ∧ I r.2
      | some d => r.1 = .rt d ∧ F r.2) → (l.findSome? g = none → ∀ e, I e → Q (.nx, e)) → (∀ d, l.findSome? g = some d → ∀ e, F e → Q (.rt d, e)) → wp (forL step ok (l.map f) e) Q
  | [], e, hI, _, h1, _ => by
    unfold forL
    exact (wp_some _).mpr (h1 rfl e hI)
  | a :: l, e, hI, hs, h1, h2 => by
    rw [List.map_cons]
    unfold forL
    rw [wp_bind]
    refine wp_mono (hs a List.mem_cons_self e hI) fun r hr => ?_
    rw [List.findSome?_cons] at h1 h2
    cases hg : g a with
    | none =>
      rw [hg] at hr h1 h2
      obtain ⟨fl, e'⟩ := r
      obtain ⟨rfl, ho, hI'⟩ := hr
      simp only
      rw [if_pos ho]
      exact for_find f g I F hI' (fun b hb => hs b (List.mem_cons_of_mem _ hb)) h1 h2
    | some d =>
      rw [hg] at hr h1 h2
      obtain ⟨fl, e'⟩ := r
      obtain ⟨rfl, hF⟩ := hr
      exact (wp_some _).mpr (h2 d rfl e' hF)
theorem getW {ws : List (List Nat)} {i : Nat} (h : i < ws.length) : atP (ws.map P.str) (i : Int) = some (.str (ws.getD i [])) := by
  rw [at_nat (by rw [List.length_map]; exact h), List.getElem?_map, List.getD_eq_getElem?_getD, List.getElem?_eq_getElem h] <;> rfl
def prP : Nat × Nat → D := fun q => .imm (.tup [.int (q.1 : Int), .int (q.2 : Int)])
theorem it_rng2n {i n : Nat} (h : i ≤ 100000) (h2 : n ≤ 100000) : items .rng2 [.imm (.int ((i : Int) + 1)), .imm (.int (n : Int))] = some (((List.range (n - (i + 1))).map (i + 1 + ·)).map fun k : Nat => P.int (k : Int)) := by
  rw [it_rng2 (by omega), List.map_map]
  have : (((n : Int)) - ((i : Int) + 1)).toNat = n - (i + 1) := by omega
  rw [this]
  refine congrArg some (List.map_congr_left fun a _ => congrArg P.int ?_)
  show (i : Int) + 1 + (a : Int) = ((i + 1 + a : Nat) : Int)
  omega
theorem js_lt {n i j : Nat} (h : j ∈ (List.range (n - (i + 1))).map (i + 1 + ·)) : j < n := by
  obtain ⟨a, ha, rfl⟩ := List.mem_map.mp h
  have := List.mem_range.mp ha
  show i + 1 + a < n
  omega
theorem map_find {α β : Type} (f : α → Option β) {γ : Type} (h : β → γ) : ∀ l : List α, (l.findSome? f).map h = l.findSome? fun a => (f a).map h
  | [] => rfl
  | a :: l => by
    rw [List.findSome?_cons, List.findSome?_cons]
    cases f a with
    | none => exact map_find f h l
    | some b => rfl
theorem c_unl (k : Nat) (ws : List (List Nat)) (hl : ws.length ≤ 1000) : callF prog G (k + 1) 9 [.lst (ws.map P.str)] = some (((unlike ws).map prP).getD (.imm .non), [.lst (ws.map P.str)]) := by
  refine wp_is (call_wp (fn := f_first_unlike) rfl rfl ?_)
  simp only [f_first_unlike, b_first_unlike]
  have hlm : (ws.map P.str).length = ws.length := List.length_map ..
  obtain ⟨wd, hwd⟩ : ∃ wd : Nat → List Nat, ∀ i, ws.getD i [] = wd i := ⟨_, fun _ => rfl⟩
  have hW := fun i (h : i < ws.length) => getW h
  simp only [hwd] at hW
  have e6 : (2 : Nat) ≤ line := le_lineN (by omega)
  generalize hX : ws.map P.str = X at *
  refine wp_seq (fun r => match unlike ws with
      | none => ∃ x y, r = (.nx, [some (.lst X), x, y])
      | some q => ∃ x y, r = (.rt (prP q), [some (.lst X), x, y])) (fun R hR => ?_) fun r hr => ?_
  · have hu : (unlike ws).map prP = (List.range ws.length).findSome? fun i => (unl1 ws i ((List.range (ws.length - (i + 1))).map (i + 1 + ·))).map prP := by
      unfold unlike
      rw [unl_is, map_find]
    have hlX : (X.length : Int) = (ws.length : Int) := by omega
    simp -implicitDefEqProofs [hlX, it_rng1 (show ws.length ≤ 1000000 by omega)]
    refine for_find (fun k : Nat => P.int (k : Int)) (fun i => (unl1 ws i ((List.range (ws.length - (i + 1))).map (i + 1 + ·))).map prP) (fun e => ∃ x y, e = [some (.lst X), x, y]) (fun e => ∃ x y, e = [some (.lst X), x, y]) ⟨none, none, rfl⟩ (fun i hi e hI => ?_) (fun h e hI => ?_) (fun d h e hI => ?_)
    · obtain ⟨x, y, rfl⟩ := hI
      have hi : i < ws.length := List.mem_range.mp hi
      have hWi := hW i hi
      rw [unl1_is, map_find]
      simp only [hwd]
      simp -implicitDefEqProofs [-List.map_map, stepFf, hlX, it_rng2n (show i ≤ 100000 by omega) (show ws.length ≤ 100000 by omega)]
      refine for_find (fun k : Nat => P.int (k : Int)) (fun j => (if wd i = wd j then none else some (i, j)).map prP) (fun e => ∃ y, e = [some (.lst X), some (.imm (.int (i : Int))), y]) (fun e => ∃ y, e = [some (.lst X), some (.imm (.int (i : Int))), y]) ⟨y, rfl⟩ (fun j hj e hI => ?_) (fun h e hI => ?_) (fun d h e hI => ?_)
      · obtain ⟨y, rfl⟩ := hI
        have hWj := hW j (js_lt hj)
        generalize wd i = a at *
        generalize wd j = b at *
        by_cases hab : a = b
        · simp -implicitDefEqProofs [stepFf, hWi, hWj, hab]
        · simp -implicitDefEqProofs [stepFf, hWi, hWj, hab, e6, prP]
      · obtain ⟨y, rfl⟩ := hI
        refine (wp_some _).mpr ?_
        rw [h]
        exact ⟨rfl, _, _, rfl⟩
      · obtain ⟨y, rfl⟩ := hI
        refine (wp_some _).mpr ?_
        rw [h]
        exact ⟨rfl, _, _, rfl⟩
    · rw [← hu] at h
      obtain ⟨x, y, rfl⟩ := hI
      refine hR _ ?_
      cases hq : unlike ws with
      | none => exact ⟨x, y, rfl⟩
      | some q => rw [hq] at h; cases h
    · rw [← hu] at h
      obtain ⟨x, y, rfl⟩ := hI
      refine hR _ ?_
      cases hq : unlike ws with
      | none => rw [hq] at h; cases h
      | some q => rw [hq] at h; cases h; exact ⟨x, y, rfl⟩
  cases hq : unlike ws with
  | none =>
    rw [hq] at hr
    obtain ⟨x, y, rfl⟩ := hr
    simp -implicitDefEqProofs [asgTs, asgT]
  | some q =>
    rw [hq] at hr
    obtain ⟨x, y, rfl⟩ := hr
    simp -implicitDefEqProofs [asgTs, asgT]
end Sw.k45
namespace Sw.k45
def Tu : List Nat := [116, 117, 114, 110, 101, 100]
def Pa : List Nat := [112, 97, 114, 116, 101, 100]
def papP : Pap → P
  | .parted i j => .tup [.str Pa, .int (i : Int), .int (j : Int)]
  | .turned w => .tup [.str Tu, .str w]
def wsP (row : List Nat) : List (List Nat) := (List.range row.length).map fun k => leastP (wordP row (stepsP row) k)
def wsL (row : List Nat) : List (List Nat) := (List.range row.length).map fun k => leastL (wordL row (stepsL row) k)
theorem paperP_is (row : List Nat) : paperP row = match unlike (wsP row) with
    | some (i, j) => .parted i j
    | none => .turned (times ((wsP row).getD 0 []) (row.length / ((wsP row).getD 0 []).length)) := by
  unfold paperP wsP
  simp only [fis_eq, fcss_eq, fcs_eq] <;> rfl
theorem paperL_is (row : List Nat) : paperL row = match unlike (wsL row) with
    | some (i, j) => .parted i j
    | none => .turned (leastL (times ((wsL row).getD 0 []) (row.length / ((wsL row).getD 0 []).length))) := by
  unfold paperL wsL
  simp only [fis_eq, fcss_eq, fcs_eq] <;> rfl
theorem GR.ws {row : List Nat} (g : GR row) : wsL row = wsP row := by
  unfold wsP wsL
  refine List.map_congr_left fun k hk => ?_
  obtain ⟨_, z2, z3, _⟩ := g.ck k (List.mem_range.mp hk)
  rw [← g.seq, ← z2, z3]
theorem wsP_len (row : List Nat) : (wsP row).length = row.length := by unfold wsP; simp
theorem GR.w0 {row : List Nat} (g : GR row) : ∃ w, (wsP row).getD 0 [] = w ∧ (wsP row)[0]? = some w ∧ w ≠ [] ∧ w.length ≤ row.length + 1 := by
  have h1 := g.n1
  have e : (wsP row)[0]? = some (leastP (wordP row (stepsP row) 0)) := by
    unfold wsP
    rw [List.getElem?_map, List.getElem?_range (by omega)] <;> rfl
  obtain ⟨_, _, _, z4, _⟩ := g.ck 0 (by omega)
  have hl := leastP_len z4
  refine ⟨_, by rw [List.getD_eq_getElem?_getD, e] <;> rfl, e, fun q => z4 (List.length_eq_zero_iff.mp ?_), by rw [hl]; exact wordP_len 0 _⟩
  rw [← hl, q] <;> rfl
theorem c_paper (k : Nat) (row : List Nat) (g : GR row) : callF prog G (k + 4) 8 [.imm (.str row)] = some (.imm (papP (paperP row)), [.imm (.str row)]) := by
  refine wp_is (call_wp (fn := f_turned_paper) rfl rfl ?_)
  have h6 := g.n6
  have hll : row.length ≤ line := le_lineN (by omega)
  have hlen := so_lenS hll
  have e1 := c_steps (k + 2) row (by omega)
  simp only [f_turned_paper, b_turned_paper]
  refine wp_seq (fun r => r = (.nx, [some (.imm (.str row)), some (.lst (nat2 (stepsP row))), none, none, none])) (fun R hR => ?_) fun r hr => ?_
  · simp -implicitDefEqProofs [e1]
    exact hR _ rfl
  subst hr
  refine wp_seq (fun r => r = (.nx, [some (.imm (.str row)), some (.lst (nat2 (stepsP row))), some (.lst ((wsP row).map P.str)), none, none])) (fun R hR => ?_) fun r hr => ?_
  · simp -implicitDefEqProofs [hlen, it_rng1 (show row.length ≤ 1000000 by omega)]
    refine wp_eq (comp_map (fun k : Nat => P.int (k : Int)) (fun j => P.str (leastP (wordP row (stepsP row) j))) (fun _ => true) (by rw [List.length_range]; exact hll) fun j hj acc hacc => ?_) ?_
    · have hj := List.mem_range.mp hj
      obtain ⟨z1, _, _, z4, _⟩ := g.ck j hj
      have e2 := c_wordof (k + 1) row (stepsP row) j (by omega) g.sl g.sv hj z1
      have hwl := wordP_len (row := row) j (stepsP row)
      have e3 := c_least (k + 1) _ z4 (by omega)
      generalize leastP (wordP row (stepsP row) j) = l at *
      generalize wordP row (stepsP row) j = w at *
      generalize nat2 (stepsP row) = Y at *
      simp -implicitDefEqProofs [stepCc, e2, e3, hacc]
    · rw [map_true, show (List.range row.length).map (fun j => P.str (leastP (wordP row (stepsP row) j))) = (wsP row).map P.str by unfold wsP; rw [List.map_map] <;> rfl]
      generalize (wsP row).map P.str = X at *
      generalize nat2 (stepsP row) = Y at *
      simp -implicitDefEqProofs
      exact hR _ rfl
  subst hr
  have e4 := c_unl (k + 2) (wsP row) (by rw [wsP_len]; omega)
  rw [paperP_is]
  obtain ⟨w, w1, w2, w3, w4⟩ := g.w0
  rw [w1]
  have w0 : 0 < w.length := List.length_pos_iff.mpr w3
  have w2 : atP ((wsP row).map P.str) 0 = some (.str w) := by
    rw [show (0 : Int) = ((0 : Nat) : Int) from rfl, at_nat (by rw [List.length_map, wsP_len]; have := g.n1; omega), List.getElem?_map, w2] <;> rfl
  have hwll : w.length ≤ line := le_lineN (by omega)
  have hlen2 := so_lenS hwll
  have hdiv := so_fdivN (a := row.length) (b := w.length) w0 (by omega)
  have hql : row.length / w.length ≤ row.length := Nat.div_le_self _ _
  have hmul := so_mulW (s := w) (n := row.length / w.length) (le_lineN (Nat.le_trans (Nat.mul_le_mul (show w.length ≤ 7 by omega) (show row.length / w.length ≤ 6 by omega)) (by decide))) (by omega)
  rw [← times_is] at hmul
  have e6 : (2 : Nat) ≤ line := le_lineN (by omega)
  have e7 : (1 : Nat) ≤ line := le_lineN (by omega)
  generalize times w (row.length / w.length) = v at *
  generalize row.length / w.length = d at *
  generalize nat2 (stepsP row) = Y at *
  generalize (wsP row).map P.str = X at *
  cases hu : unlike (wsP row) with
  | none =>
    rw [hu] at e4
    have e4 : callF prog G (k + 3) 9 [.lst X] = some (.imm .non, [.lst X]) := e4
    simp -implicitDefEqProofs [e4, e6, w2, hlen, hlen2, hdiv, hmul, papP, Tu, asgTs, asgT]
  | some q =>
    rw [hu] at e4
    obtain ⟨i, j⟩ := q
    have e4 : callF prog G (k + 3) 9 [.lst X] = some (.imm (.tup [.int (i : Int), .int (j : Int)]), [.lst X]) := e4
    have e8 : opSem .add [.imm (.tup [.str [112, 97, 114, 116, 101, 100]]), .imm (.tup [.int (i : Int), .int (j : Int)])] = some (.imm (.tup [.str [112, 97, 114, 116, 101, 100], .int (i : Int), .int (j : Int)])) := so_addt (le_lineN (by simp))
    simp -implicitDefEqProofs [e4, e7, e8, papP, Pa, asgTs, asgT]
theorem c_lpaper (k : Nat) (row : List Nat) (g : GR row) : callF prog G (k + 3) 27 [.imm (.str row)] = some (.imm (papP (paperL row)), [.imm (.str row)]) := by
  refine wp_is (call_wp (fn := f__law_paper) rfl rfl ?_)
  have h6 := g.n6
  have hll : row.length ≤ line := le_lineN (by omega)
  have hlen := so_lenS hll
  simp only [f__law_paper, b__law_paper]
  refine wp_seq (fun r => r = (.nx, [some (.imm (.str row)), some (.lst ((wsL row).map P.str)), none, none, none])) (fun R hR => ?_) fun r hr => ?_
  · simp -implicitDefEqProofs [hlen, it_rng1 (show row.length ≤ 1000000 by omega)]
    refine wp_eq (comp_map (fun k : Nat => P.int (k : Int)) (fun j => P.str (leastL (wordL row (stepsL row) j))) (fun _ => true) (by rw [List.length_range]; exact hll) fun j hj acc hacc => ?_) ?_
    · have hj := List.mem_range.mp hj
      obtain ⟨z1, z2, z3, z4, _⟩ := g.ck j hj
      have e2 := c_lcircle k row j (by omega) (by rw [← g.seq]; exact g.sl) (by rw [← g.seq]; exact g.sv) hj
      have hwl := wordP_len (row := row) j (stepsP row)
      rw [z2, g.seq] at z4 hwl
      have e3 := c_lleast k _ z4 (by omega)
      generalize leastL (wordL row (stepsL row) j) = l at *
      generalize wordL row (stepsL row) j = w at *
      simp -implicitDefEqProofs [stepCc, e2, e3, hacc]
    · rw [map_true, show (List.range row.length).map (fun j => P.str (leastL (wordL row (stepsL row) j))) = (wsL row).map P.str by unfold wsL; rw [List.map_map] <;> rfl]
      generalize (wsL row).map P.str = X at *
      simp -implicitDefEqProofs
      exact hR _ rfl
  subst hr
  rw [paperL_is]
  rw [g.ws]
  obtain ⟨w, w1, w2, w3, w4⟩ := g.w0
  rw [w1]
  have w0 : 0 < w.length := List.length_pos_iff.mpr w3
  have w2 : atP ((wsP row).map P.str) 0 = some (.str w) := by
    rw [show (0 : Int) = ((0 : Nat) : Int) from rfl, at_nat (by rw [List.length_map, wsP_len]; have := g.n1; omega), List.getElem?_map, w2] <;> rfl
  have hwll : w.length ≤ line := le_lineN (by omega)
  have hlen2 := so_lenS hwll
  have hdiv := so_fdivN (a := row.length) (b := w.length) w0 (by omega)
  have hql : row.length / w.length ≤ row.length := Nat.div_le_self _ _
  have hmul := so_mulW (s := w) (n := row.length / w.length) (le_lineN (Nat.le_trans (Nat.mul_le_mul (show w.length ≤ 7 by omega) (show row.length / w.length ≤ 6 by omega)) (by decide))) (by omega)
  rw [← times_is] at hmul
  have e6 : (2 : Nat) ≤ line := le_lineN (by omega)
  have e7 : (3 : Nat) ≤ line := le_lineN (by omega)
  have hvl : (times w (row.length / w.length)).length ≤ 1000 := by
    rw [times_len]
    exact Nat.le_trans (Nat.mul_le_mul (show row.length / w.length ≤ 6 by omega) (show w.length ≤ 7 by omega)) (by decide)
  have e8 : unlike (wsP row) = none → callF prog G (k + 2) 26 [.imm (.str (times w (row.length / w.length)))] = some (.imm (.str (leastL (times w (row.length / w.length)))), [.imm (.str (times w (row.length / w.length)))]) := fun hu => by
    refine c_lleast k _ (fun q => ?_) hvl
    have hpl := paperP_is row
    rw [hu, w1, q] at hpl
    have hpp := g.pp
    rw [hpl] at hpp
    have := (g.pt [] hpp.symm).2.2.1
    have h1 := g.n1
    rw [← this] at h1
    simp at h1
  generalize times w (row.length / w.length) = v at *
  generalize row.length / w.length = d at *
  obtain ⟨wd, hwd⟩ : ∃ wd : Nat → List Nat, ∀ i, (wsP row).getD i [] = wd i := ⟨_, fun _ => rfl⟩
  have hW := fun i (h : i < (wsP row).length) => getW h
  simp only [hwd] at hW
  have hlm := wsP_len row
  have hu : (unlike (wsP row)).map (fun q => D.imm (papP (.parted q.1 q.2))) = (List.range row.length).findSome? fun i => (unl1 (wsP row) i ((List.range (row.length - (i + 1))).map (i + 1 + ·))).map fun q => D.imm (papP (.parted q.1 q.2)) := by
    unfold unlike
    rw [unl_is, map_find, hlm]
  have hu1 := fun i js => unl1_is (wsP row) i js
  simp only [hwd] at hu1
  rw [hlm] at hW
  generalize unlike (wsP row) = U at *
  generalize hX : (wsP row).map P.str = X at *
  refine wp_seq (fun r => match U with
      | none => ∃ x y, r = (.nx, [some (.imm (.str row)), some (.lst X), x, y, none])
      | some q => ∃ x y, r = (.rt (.imm (papP (.parted q.1 q.2))), [some (.imm (.str row)), some (.lst X), x, y, none])) (fun R hR => ?_) fun r hr => ?_
  · simp -implicitDefEqProofs [hlen, it_rng1 (show row.length ≤ 1000000 by omega)]
    refine for_find (fun k : Nat => P.int (k : Int)) (fun i => (unl1 (wsP row) i ((List.range (row.length - (i + 1))).map (i + 1 + ·))).map fun q => D.imm (papP (.parted q.1 q.2))) (fun e => ∃ x y, e = [some (.imm (.str row)), some (.lst X), x, y, none]) (fun e => ∃ x y, e = [some (.imm (.str row)), some (.lst X), x, y, none]) ⟨none, none, rfl⟩ (fun i hi e hI => ?_) (fun h e hI => ?_) (fun d h e hI => ?_)
    · obtain ⟨x, y, rfl⟩ := hI
      have hi := List.mem_range.mp hi
      have hWi := hW i hi
      rw [hu1, map_find]
      simp -implicitDefEqProofs [-List.map_map, stepFf, hlen, it_rng2n (show i ≤ 100000 by omega) (show row.length ≤ 100000 by omega)]
      refine for_find (fun k : Nat => P.int (k : Int)) (fun j => (if wd i = wd j then none else some (i, j)).map fun q => D.imm (papP (.parted q.1 q.2))) (fun e => ∃ y, e = [some (.imm (.str row)), some (.lst X), some (.imm (.int (i : Int))), y, none]) (fun e => ∃ y, e = [some (.imm (.str row)), some (.lst X), some (.imm (.int (i : Int))), y, none]) ⟨y, rfl⟩ (fun j hj e hI => ?_) (fun h e hI => ?_) (fun d h e hI => ?_)
      · obtain ⟨y, rfl⟩ := hI
        have hWj := hW j (js_lt hj)
        generalize wd i = a at *
        generalize wd j = b at *
        by_cases hab : a = b
        · simp -implicitDefEqProofs [stepFf, hWi, hWj, hab]
        · simp -implicitDefEqProofs [stepFf, hWi, hWj, hab, e7, papP, Pa]
      · obtain ⟨y, rfl⟩ := hI
        refine (wp_some _).mpr ?_
        rw [h]
        exact ⟨rfl, _, _, rfl⟩
      · obtain ⟨y, rfl⟩ := hI
        refine (wp_some _).mpr ?_
        rw [h]
        exact ⟨rfl, _, _, rfl⟩
    · rw [← hu] at h
      obtain ⟨x, y, rfl⟩ := hI
      refine hR _ ?_
      cases U with
      | none => exact ⟨x, y, rfl⟩
      | some q => cases h
    · rw [← hu] at h
      obtain ⟨x, y, rfl⟩ := hI
      refine hR _ ?_
      cases U with
      | none => cases h
      | some q => cases h; exact ⟨x, y, rfl⟩
  cases U with
  | none =>
    obtain ⟨x, y, rfl⟩ := hr
    have e8 := e8 rfl
    simp -implicitDefEqProofs [e6, e8, w2, hlen, hlen2, hdiv, hmul, papP, Tu, asgTs, asgT]
  | some q =>
    obtain ⟨i, j⟩ := q
    obtain ⟨x, y, rfl⟩ := hr
    simp -implicitDefEqProofs [asgTs, asgT]
end Sw.k45
/-! M45c: all words of one to six letters over abc, gone through. -/
namespace Sw.k45
theorem and3 {f : List Nat → Bool} {n : Nat} {w : List Nat} (h1 : allN f n (97 :: w) = true) (h2 : allN f n (98 :: w) = true) (h3 : allN f n (99 :: w) = true) : allN f (n + 1) w = true := by
  unfold allN
  rw [h1, h2, h3] <;> rfl
theorem w6_111 : allN okW 3 [97, 97, 97] = true := by decide +kernel
theorem w6_112 : allN okW 3 [98, 97, 97] = true := by decide +kernel
theorem w6_113 : allN okW 3 [99, 97, 97] = true := by decide +kernel
theorem w6_121 : allN okW 3 [97, 98, 97] = true := by decide +kernel
theorem w6_122 : allN okW 3 [98, 98, 97] = true := by decide +kernel
theorem w6_123 : allN okW 3 [99, 98, 97] = true := by decide +kernel
theorem w6_131 : allN okW 3 [97, 99, 97] = true := by decide +kernel
theorem w6_132 : allN okW 3 [98, 99, 97] = true := by decide +kernel
theorem w6_133 : allN okW 3 [99, 99, 97] = true := by decide +kernel
theorem w6_211 : allN okW 3 [97, 97, 98] = true := by decide +kernel
theorem w6_212 : allN okW 3 [98, 97, 98] = true := by decide +kernel
theorem w6_213 : allN okW 3 [99, 97, 98] = true := by decide +kernel
theorem w6_221 : allN okW 3 [97, 98, 98] = true := by decide +kernel
theorem w6_222 : allN okW 3 [98, 98, 98] = true := by decide +kernel
theorem w6_223 : allN okW 3 [99, 98, 98] = true := by decide +kernel
theorem w6_231 : allN okW 3 [97, 99, 98] = true := by decide +kernel
theorem w6_232 : allN okW 3 [98, 99, 98] = true := by decide +kernel
theorem w6_233 : allN okW 3 [99, 99, 98] = true := by decide +kernel
theorem w6_311 : allN okW 3 [97, 97, 99] = true := by decide +kernel
theorem w6_312 : allN okW 3 [98, 97, 99] = true := by decide +kernel
theorem w6_313 : allN okW 3 [99, 97, 99] = true := by decide +kernel
theorem w6_321 : allN okW 3 [97, 98, 99] = true := by decide +kernel
theorem w6_322 : allN okW 3 [98, 98, 99] = true := by decide +kernel
theorem w6_323 : allN okW 3 [99, 98, 99] = true := by decide +kernel
theorem w6_331 : allN okW 3 [97, 99, 99] = true := by decide +kernel
theorem w6_332 : allN okW 3 [98, 99, 99] = true := by decide +kernel
theorem w6_333 : allN okW 3 [99, 99, 99] = true := by decide +kernel
theorem w6 : allN okW 6 [] = true := (and3 (and3 (and3 w6_111 w6_112 w6_113) (and3 w6_121 w6_122 w6_123) (and3 w6_131 w6_132 w6_133)) (and3 (and3 w6_211 w6_212 w6_213) (and3 w6_221 w6_222 w6_223) (and3 w6_231 w6_232 w6_233)) (and3 (and3 w6_311 w6_312 w6_313) (and3 w6_321 w6_322 w6_323) (and3 w6_331 w6_332 w6_333)))
theorem r6_111 : allN okR 3 [97, 97, 97] = true := by decide +kernel
theorem r6_112 : allN okR 3 [98, 97, 97] = true := by decide +kernel
theorem r6_113 : allN okR 3 [99, 97, 97] = true := by decide +kernel
theorem r6_121 : allN okR 3 [97, 98, 97] = true := by decide +kernel
theorem r6_122 : allN okR 3 [98, 98, 97] = true := by decide +kernel
theorem r6_123 : allN okR 3 [99, 98, 97] = true := by decide +kernel
theorem r6_131 : allN okR 3 [97, 99, 97] = true := by decide +kernel
theorem r6_132 : allN okR 3 [98, 99, 97] = true := by decide +kernel
theorem r6_133 : allN okR 3 [99, 99, 97] = true := by decide +kernel
theorem r6_211 : allN okR 3 [97, 97, 98] = true := by decide +kernel
theorem r6_212 : allN okR 3 [98, 97, 98] = true := by decide +kernel
theorem r6_213 : allN okR 3 [99, 97, 98] = true := by decide +kernel
theorem r6_221 : allN okR 3 [97, 98, 98] = true := by decide +kernel
theorem r6_222 : allN okR 3 [98, 98, 98] = true := by decide +kernel
theorem r6_223 : allN okR 3 [99, 98, 98] = true := by decide +kernel
theorem r6_231 : allN okR 3 [97, 99, 98] = true := by decide +kernel
theorem r6_232 : allN okR 3 [98, 99, 98] = true := by decide +kernel
theorem r6_233 : allN okR 3 [99, 99, 98] = true := by decide +kernel
theorem r6_311 : allN okR 3 [97, 97, 99] = true := by decide +kernel
theorem r6_312 : allN okR 3 [98, 97, 99] = true := by decide +kernel
theorem r6_313 : allN okR 3 [99, 97, 99] = true := by decide +kernel
theorem r6_321 : allN okR 3 [97, 98, 99] = true := by decide +kernel
theorem r6_322 : allN okR 3 [98, 98, 99] = true := by decide +kernel
theorem r6_323 : allN okR 3 [99, 98, 99] = true := by decide +kernel
theorem r6_331 : allN okR 3 [97, 99, 99] = true := by decide +kernel
theorem r6_332 : allN okR 3 [98, 99, 99] = true := by decide +kernel
theorem r6_333 : allN okR 3 [99, 99, 99] = true := by decide +kernel
theorem r6 : allN okR 6 [] = true := (and3 (and3 (and3 r6_111 r6_112 r6_113) (and3 r6_121 r6_122 r6_123) (and3 r6_131 r6_132 r6_133)) (and3 (and3 r6_211 r6_212 r6_213) (and3 r6_221 r6_222 r6_223) (and3 r6_231 r6_232 r6_233)) (and3 (and3 r6_311 r6_312 r6_313) (and3 r6_321 r6_322 r6_323) (and3 r6_331 r6_332 r6_333)))
theorem w5 : allN okW 5 [] = true := by decide +kernel
theorem r5 : allN okR 5 [] = true := by decide +kernel
theorem w4 : allN okW 4 [] = true := by decide +kernel
theorem r4 : allN okR 4 [] = true := by decide +kernel
theorem w3 : allN okW 3 [] = true := by decide +kernel
theorem r3 : allN okR 3 [] = true := by decide +kernel
theorem w2 : allN okW 2 [] = true := by decide +kernel
theorem r2 : allN okR 2 [] = true := by decide +kernel
theorem w1 : allN okW 1 [] = true := by decide +kernel
theorem r1 : allN okR 1 [] = true := by decide +kernel
def Abc (w : List Nat) : Prop := ∀ c ∈ w, c = 97 ∨ c = 98 ∨ c = 99
theorem allN_of {f : List Nat → Bool} : ∀ {n : Nat} {acc : List Nat}, allN f n acc = true → ∀ u : List Nat, u.length = n → Abc u → f (u.reverse ++ acc) = true
  | 0, acc, h, u, hu, _ => by
    rw [List.length_eq_zero_iff.mp hu]
    exact h
  | n + 1, acc, h, [], hu, _ => by simp at hu
  | n + 1, acc, h, c :: u, hu, ha => by
    unfold allN at h
    rw [List.reverse_cons, List.append_assoc]
    have hul : u.length = n := by simpa using hu
    have hua : Abc u := fun d hd => ha d (List.mem_cons_of_mem _ hd)
    cases q1 : allN f n (97 :: acc) with
    | false => rw [q1] at h; cases h
    | true =>
      cases q2 : allN f n (98 :: acc) with
      | false => rw [q1, q2] at h; cases h
      | true =>
        rw [q1, q2] at h
        rcases ha c List.mem_cons_self with rfl | rfl | rfl
        · exact allN_of q1 u hul hua
        · exact allN_of q2 u hul hua
        · exact allN_of h u hul hua
theorem all_of {f : List Nat → Bool} {n : Nat} (h : allN f n [] = true) (w : List Nat) (hl : w.length = n) (ha : Abc w) : f w = true := by
  have := allN_of h w.reverse (by rw [List.length_reverse]; exact hl) fun c hc => ha c (List.mem_reverse.mp hc)
  simpa using this
theorem okW_all (w : List Nat) (h0 : 1 ≤ w.length) (h6 : w.length ≤ 6) (ha : Abc w) : okW w = true := by
  have : w.length = 1 ∨ w.length = 2 ∨ w.length = 3 ∨ w.length = 4 ∨ w.length = 5 ∨ w.length = 6 := by omega
  rcases this with h | h | h | h | h | h
  · exact all_of w1 w h ha
  · exact all_of w2 w h ha
  · exact all_of w3 w h ha
  · exact all_of w4 w h ha
  · exact all_of w5 w h ha
  · exact all_of w6 w h ha
theorem okR_all (w : List Nat) (h0 : 1 ≤ w.length) (h6 : w.length ≤ 6) (ha : Abc w) : okR w = true := by
  have : w.length = 1 ∨ w.length = 2 ∨ w.length = 3 ∨ w.length = 4 ∨ w.length = 5 ∨ w.length = 6 := by omega
  rcases this with h | h | h | h | h | h
  · exact all_of r1 w h ha
  · exact all_of r2 w h ha
  · exact all_of r3 w h ha
  · exact all_of r4 w h ha
  · exact all_of r5 w h ha
  · exact all_of r6 w h ha
end Sw.k45
namespace Sw.k45
theorem c_isint (k : Nat) (v : P) : callF prog G (k + 1) 0 [.imm v] = some (.imm (.bl (isI v)), [.imm v]) := by
  refine wp_is (call_wp (fn := f_is_integer) rfl rfl ?_)
  cases v <;> simp -implicitDefEqProofs [f_is_integer, b_is_integer, asgTs, asgT, isTy, isI]
def tv (row : List Nat) : Option (List Nat) := match paperL row with
  | .turned u => some u
  | _ => none
theorem mem_turn {w : List Nat} {c : Nat} (h : c ∈ w) : c ∈ (turn w).1 := by
  obtain ⟨i, hi, rfl⟩ := List.mem_iff_getElem.mp h
  unfold turn
  refine List.mem_map.mpr ?_
  by_cases hn : i + 1 < w.length
  · refine ⟨w.drop (i + 1) ++ w.take (i + 1), (isort_perm _).mem_iff.mpr (List.mem_map.mpr ⟨i + 1, List.mem_range.mpr hn, rfl⟩), ?_⟩
    unfold lastC
    rw [List.getLastD_eq_getLast?, List.getLast?_append, List.getLast?_take]
    simp [hi]
  · refine ⟨w.drop 0 ++ w.take 0, (isort_perm _).mem_iff.mpr (List.mem_map.mpr ⟨0, List.mem_range.mpr (by omega), rfl⟩), ?_⟩
    unfold lastC
    have : i = w.length - 1 := by omega
    subst this
    rw [List.drop_zero, List.take_zero, List.append_nil, List.getLastD_eq_getLast?, List.getLast?_eq_getElem?, List.getElem?_eq_getElem hi]
    rfl
theorem turned_fact {row v : List Nat} (g : GR row) (ha : Abc row) (hl : v.length = row.length) : (decide (v = leastP v) && decide ((turn v).1 = row)) = decide (tv row = some v) := by
  by_cases h : tv row = some v
  · rw [decide_eq_true h]
    unfold tv at h
    cases e : paperL row with
    | parted i j => rw [e] at h; cases h
    | turned u =>
      rw [e] at h
      obtain rfl : u = v := by injection h
      obtain ⟨h1, h2, _⟩ := g.pt u e
      rw [decide_eq_true h1.symm, decide_eq_true h2] <;> rfl
  · rw [decide_eq_false h]
    by_cases h2 : v = leastP v
    · by_cases h3 : (turn v).1 = row
      · exfalso
        refine h ?_
        have hv : Abc v := fun c hc => ha c (by rw [← h3]; exact mem_turn hc)
        have ok := okW_all v (by have := g.n1; omega) (by have := g.n6; omega) hv
        unfold okW at ok
        rw [turnK_eq, h3, Bool.and_eq_true] at ok
        have ok := ok.2
        unfold tv
        cases e : paperL row with
        | parted i j => rw [e] at ok; cases ok
        | turned u =>
          rw [e] at ok
          simp only [fcs_eq] at ok
          rw [← h2, eqb_iff.mpr rfl, cond_true] at ok
          rw [eqb_iff.mp ok]
      · rw [decide_eq_false h3, Bool.and_false]
    · rw [decide_eq_false h2, Bool.false_and]
def ansJ (row : List Nat) (t : List Nat) : List P → Bool
  | [x] => decide (t = Tu) && (match x with
    | .str v => decide (v.length = row.length) && decide (tv row = some v)
    | _ => false)
  | [x, y] => decide (t = Pa) && (match x with
    | .int i => (match y with
      | .int j => decide (0 ≤ i ∧ i < j ∧ j < row.length) && !decide ((wsP row).getD i.toNat [] = (wsP row).getD j.toNat [])
      | _ => false)
    | _ => false)
  | _ => false
def ansV (row : List Nat) : P → Bool
  | .tup ps => (match ps with
    | [] => false
    | x :: r => (match x with
      | .str t => ansJ row t r
      | _ => false))
  | _ => false
theorem so_notin23 (n : Int) : opSem .notin [.imm (.int n), .imm (.tup [.int 2, .int 3])] = some (.imm (.bl (!(decide (2 = n) || decide (3 = n))))) := by
  have e : min (depths [.int 2, .int 3]) (depth (.int n)) ≤ 50 := by simp [depths, depth]
  simp only [opSem, opIn]
  rw [if_pos e]
  simp only [List.any_cons, List.any_nil, eqv_int, Bool.or_false, Option.bind_some]
  rfl
theorem wsP_get {row : List Nat} {i : Nat} (h : i < row.length) : (wsP row).getD i [] = leastP (wordP row (stepsP row) i) := by
  unfold wsP
  rw [List.getD_eq_getElem?_getD, List.getElem?_map, List.getElem?_range h] <;> rfl
theorem hTu : (Tu = [116, 117, 114, 110, 101, 100]) = True := eq_true rfl
theorem hPa : (Pa = [112, 97, 114, 116, 101, 100]) = True := eq_true rfl
theorem hPT : (Pa = [116, 117, 114, 110, 101, 100]) = False := eq_false (by decide)
theorem isTyS (s : List Nat) : isTy (.str s) .str = true := rfl
theorem lT3 (a b c : P) : (([a, b, c].length : Nat) : Int) = 3 := rfl
theorem fitsS {n d : Nat} {t : List Nat} (h : Sm n d (.str t)) : t.length ≤ n := by cases d <;> exact h
theorem c_judge (k n d : Nat) (row : List Nat) (g : GR row) (ha : Abc row) (v : P) (hn : n ≤ 1000) (hs : Sm n d v) : callF prog G (k + 4) 10 [.imm (.str row), .imm v] = some (.imm (.bl (ansV row v)), [.imm (.str row), .imm v]) := by
  refine wp_is (call_wp (fn := f_judge_turned) rfl rfl ?_)
  have h6 := g.n6
  have h1 := g.n1
  have hll : row.length ≤ line := le_lineN (by omega)
  have hlen := so_lenS hll
  by_cases ht : ∃ ps, v = .tup ps
  rotate_left 1
  · have e1 : isTy v .tuple = false := by cases v <;> first | rfl | exact absurd ⟨_, rfl⟩ ht
    have e2 : ansV row v = false := by cases v <;> first | rfl | exact absurd ⟨_, rfl⟩ ht
    rw [e2]
    simp -implicitDefEqProofs [f_judge_turned, b_judge_turned, e1, asgTs, asgT]
  obtain ⟨ps, rfl⟩ := ht
  obtain ⟨d, rfl⟩ : ∃ d', d = d' + 1 := by
    cases d with
    | zero => exact hs.elim
    | succ d => exact ⟨d, rfl⟩
  obtain ⟨hpl, hp⟩ := hs
  by_cases h23 : ps.length = 2 ∨ ps.length = 3
  rotate_left 1
  · have e1 := so_notin23 (ps.length : Int)
    rw [decide_eq_false (by omega), decide_eq_false (by omega)] at e1
    have e2 : ansV row (.tup ps) = false := by
      match ps, h23 with
      | [], _ => rfl
      | [x], _ => cases x <;> rfl
      | [x, y], h => simp at h
      | [x, y, z], h => simp at h
      | x :: y :: z :: w :: r, _ => cases x <;> rfl
    rw [e2]
    simp -implicitDefEqProofs [f_judge_turned, b_judge_turned, isTy, e1, asgTs, asgT]
  obtain ⟨x, r, rfl⟩ : ∃ x r, ps = x :: r := by
    cases ps with
    | nil => simp at h23
    | cons x r => exact ⟨x, r, rfl⟩
  have a0 : atP (x :: r) 0 = some x := at_nat (i := 0) (by simp)
  have e1 := so_notin23 (((x :: r).length : Nat) : Int)
  have e1b : (!(decide (2 = (((x :: r).length : Nat) : Int)) || decide (3 = (((x :: r).length : Nat) : Int)))) = false := by
    rcases h23 with h | h <;> rw [h] <;> rfl
  rw [e1b] at e1
  have hlT := so_lenT (ps := x :: r)
  by_cases hx : ∃ t, x = .str t
  rotate_left 1
  · have e2 : isTy x .str = false := by cases x <;> first | rfl | exact absurd ⟨_, rfl⟩ hx
    have e3 : ansV row (.tup (x :: r)) = false := by cases x <;> first | rfl | exact absurd ⟨_, rfl⟩ hx
    rw [e3]
    have htt : isTy (.tup (x :: r)) .tuple = true := rfl
    generalize (x :: r).length = L at *
    generalize x :: r = X at *
    simp -implicitDefEqProofs [f_judge_turned, b_judge_turned, htt, e1, e2, a0, hlT, asgTs, asgT]
  obtain ⟨t, rfl⟩ := hx
  have hv : ansV row (.tup (.str t :: r)) = ansJ row t r := rfl
  rw [hv]
  simp only [f_judge_turned, b_judge_turned]
  have hty : isTy (.str t) .str = true := rfl
  have htt : isTy (.tup (.str t :: r)) .tuple = true := rfl
  refine wp_seq (fun q => q = (.nx, [some (.imm (.str row)), some (.imm (.tup (.str t :: r))), none, none, none, none])) (fun R hR => ?_) fun q hq => ?_
  · have hR := hR _ rfl
    generalize (P.str t :: r).length = L at *
    generalize P.str t :: r = X at *
    simp -implicitDefEqProofs [htt, hty, e1, a0, hlT]
    exact hR
  subst hq
  have eI0 := fun (u : P) => c_isint (k + 2) u
  by_cases hT : t = Tu
  · subst hT
    refine wp_seq (fun q => q = (.rt (.imm (.bl (ansJ row Tu r))), [some (.imm (.str row)), some (.imm (.tup (.str Tu :: r))), none, none, none, none])) (fun R hR => ?_) fun q hq => ?_
    · have hR := hR _ rfl
      rcases h23 with h | h
      · obtain ⟨y, rfl⟩ : ∃ y, r = [y] := by
          match r, h with
          | [y], _ => exact ⟨y, rfl⟩
        have a1 : atP [P.str Tu, y] 1 = some y := at_nat (i := 1) (by simp)
        by_cases hy : ∃ w, y = .str w
        · obtain ⟨w, rfl⟩ := hy
          have hwl := fitsS (hp (.str w) (by simp))
          have hwll : w.length ≤ line := le_lineN (by omega)
          have hlw := so_lenS hwll
          have e0 : ansJ row Tu [.str w] = (decide (w.length = row.length) && decide (tv row = some w)) := by
            show (decide (Tu = Tu) && _) = _
            rw [decide_eq_true rfl] <;> rfl
          rw [e0] at hR
          by_cases hwr : w.length = row.length
          · rw [← turned_fact g ha hwr, decide_eq_true hwr, Bool.true_and] at hR
            have hw0 : w ≠ [] := fun q => by subst q; simp at hwr; omega
            have e2 := c_least (k + 1) w hw0 (by omega)
            have e3 := c_turn (k + 1) w (by omega)
            have a2 : atP [P.str (turn w).1, .int ((turn w).2 : Int)] 0 = some (.str (turn w).1) := at_nat (i := 0) (by simp)
            have htW : tW w = .tup [.str (turn w).1, .int ((turn w).2 : Int)] := rfl
            rw [htW] at e3
            have hI : ((w.length : Int) = (row.length : Int)) = True := eq_true (by omega)
            generalize leastP w = lw at *
            generalize [P.str (turn w).1, P.int ((turn w).2 : Int)] = tw at *
            generalize (turn w).1 = tw1 at *
            have a0' : atP [P.str Tu, .str w] 0 = some (.str Tu) := a0
            clear a0 e1 e1b hp
            generalize hX : [P.str Tu, .str w] = X at *
            have hL : X.length = 2 := by rw [← hX] <;> rfl
            by_cases hq : w = lw
            · rw [decide_eq_true hq, Bool.true_and] at hR
              clear hw0 hwl hwll
              simp -implicitDefEqProofs [a0', a1, hTu, isTyS, hL, hlw, hlen, hI, e2, e3, a2, hq.symm]
              exact hR
            · rw [decide_eq_false hq, Bool.false_and] at hR
              simp -implicitDefEqProofs [a0', a1, hTu, isTyS, hL, hlw, hlen, hI, e2, e3, a2, hq]
              exact hR
          · rw [decide_eq_false hwr, Bool.false_and] at hR
            have hI : ((w.length : Int) = (row.length : Int)) = False := eq_false (by omega)
            have a0' : atP [P.str Tu, .str w] 0 = some (.str Tu) := a0
            generalize hX : [P.str Tu, .str w] = X at *
            have hL : X.length = 2 := by rw [← hX] <;> rfl
            simp -implicitDefEqProofs [a0', a1, hTu, isTyS, hL, hlw, hlen, hI]
            exact hR
        · have e2 : isTy y .str = false := by cases y <;> first | rfl | exact absurd ⟨_, rfl⟩ hy
          have e3 : ansJ row Tu [y] = false := by
            show (decide (Tu = Tu) && _) = false
            cases y <;> first | exact Bool.and_false _ | exact absurd ⟨_, rfl⟩ hy
          rw [e3] at hR
          have a0' : atP [P.str Tu, y] 0 = some (.str Tu) := a0
          generalize hX : [P.str Tu, y] = X at *
          have hL : X.length = 2 := by rw [← hX] <;> rfl
          simp -implicitDefEqProofs [a0', a1, hTu, hL, e2]
          exact hR
      · obtain ⟨y, z, rfl⟩ : ∃ y z, r = [y, z] := by
          match r, h with
          | [y, z], _ => exact ⟨y, z, rfl⟩
        have e3 : ansJ row Tu [y, z] = false := by
          simp only [ansJ]
          rw [decide_eq_false (show ¬ Tu = Pa by decide), Bool.false_and]
        rw [e3] at hR
        have a0' : atP [P.str Tu, y, z] 0 = some (.str Tu) := a0
        generalize hX : [P.str Tu, y, z] = X at *
        have hL : X.length = 3 := by rw [← hX] <;> rfl
        simp -implicitDefEqProofs [a0', hTu, hL]
        exact hR
    subst hq
    simp -implicitDefEqProofs [asgTs, asgT]
  have hT2 : (t = [116, 117, 114, 110, 101, 100]) = False := eq_false hT
  refine wp_seq (fun q => q = (.nx, [some (.imm (.str row)), some (.imm (.tup (.str t :: r))), none, none, none, none])) (fun R hR => ?_) fun q hq => ?_
  · have hR := hR _ rfl
    generalize (P.str t :: r) = X at *
    simp -implicitDefEqProofs [a0, hT2]
    exact hR
  subst hq
  by_cases hP : t = Pa ∧ ∃ i j, r = [.int i, .int j]
  rotate_left 1
  · have e3 : ansJ row t r = false := by
      match r, hP with
      | [], _ => rfl
      | [x], _ =>
        show (decide (t = Tu) && _) = false
        rw [decide_eq_false hT, Bool.false_and]
      | [x, y], hP =>
        show (decide (t = Pa) && _) = false
        by_cases hpp : t = Pa
        · rw [decide_eq_true hpp, Bool.true_and]
          cases x <;> first
            | rfl
            | (cases y <;> first
              | rfl
              | exact absurd ⟨hpp, _, _, rfl⟩ hP)
        · rw [decide_eq_false hpp, Bool.false_and]
      | x :: y :: z :: r, _ => rfl
    rw [e3]
    by_cases hp : t = Pa
    · subst hp
      rcases h23 with h | h
      · have hL : (((P.str Pa :: r).length : Nat) : Int) = 2 := by rw [h] <;> rfl
        rw [hL] at hlT
        generalize (P.str Pa :: r) = X at *
        simp -implicitDefEqProofs [a0, hPa, hPT, hlT, hL, asgTs, asgT]
      · obtain ⟨y, z, rfl⟩ : ∃ y z, r = [y, z] := by
          match r, h with
          | [y, z], _ => exact ⟨y, z, rfl⟩
        have a0' : atP [P.str Pa, y, z] 0 = some (.str Pa) := a0
        have a1 : atP [P.str Pa, y, z] 1 = some y := at_nat (i := 1) (by simp)
        have a2 : atP [P.str Pa, y, z] 2 = some z := at_nat (i := 2) (by simp)
        have ht2 : isTy (.tup [P.str Pa, y, z]) .tuple = true := rfl
        clear hlT e1 a0 hp hpl
        generalize hX : [P.str Pa, y, z] = X at *
        have hL : X.length = 3 := by rw [← hX] <;> rfl
        have ey := eI0 y
        have ez := eI0 z
        by_cases hy : ∃ i, y = .int i
        · obtain ⟨i, rfl⟩ := hy
          have hz : isI z = false := by cases z <;> first | rfl | exact absurd ⟨rfl, _, _, rfl⟩ hP
          rw [hz] at ez
          rw [show isI (.int i) = true from rfl] at ey
          simp -implicitDefEqProofs [a0', a1, a2, hPa, hPT, hL, ey, ez, asgTs, asgT]
        · have hz : isI y = false := by cases y <;> first | rfl | exact absurd ⟨_, rfl⟩ hy
          rw [hz] at ey
          simp -implicitDefEqProofs [a0', a1, a2, hPa, hPT, hL, ey, ez, asgTs, asgT]
    · have hP2 : (t = [112, 97, 114, 116, 101, 100]) = False := eq_false hp
      generalize (P.str t :: r) = X at *
      simp -implicitDefEqProofs [a0, hP2, asgTs, asgT]
  obtain ⟨rfl, i, j, rfl⟩ := hP
  have a0' : atP [P.str Pa, .int i, .int j] 0 = some (.str Pa) := a0
  have a1 : atP [P.str Pa, .int i, .int j] 1 = some (.int i) := at_nat (i := 1) (by simp)
  have a2 : atP [P.str Pa, .int i, .int j] 2 = some (.int j) := at_nat (i := 2) (by simp)
  have ey := eI0 (.int i)
  have ez := eI0 (.int j)
  rw [show isI (.int i) = true from rfl] at ey
  rw [show isI (.int j) = true from rfl] at ez
  have e0 : ansJ row Pa [.int i, .int j] = (decide (0 ≤ i ∧ i < j ∧ j < row.length) && !decide ((wsP row).getD i.toNat [] = (wsP row).getD j.toNat [])) := by
    show (decide (Pa = Pa) && _) = _
    rw [decide_eq_true rfl] <;> rfl
  rw [e0]
  clear e0 a0 e1 e1b hlT hT2 hT hp hpl
  have hL : [P.str Pa, .int i, .int j].length = 3 := rfl
  have hsl : slcSem (.imm (.tup [.str Pa, .int i, .int j])) (some 1) none = some (.imm (.tup [.int i, .int j])) := by
    rw [so_slcT, show (1 : Int) = ((1 : Nat) : Int) from rfl, cut_n0] <;> rfl
  generalize [P.str Pa, .int i, .int j] = X at *
  (refine wp_stepX (by conv => lhs; simp -implicitDefEqProofs [a0', a1, a2, hPa, hPT, hL, ey, ez]) ?_; first | refine wpx_nx ?_ | refine wpx_rt ?_ | skip)
  by_cases hij : 0 ≤ i ∧ i < j ∧ j < row.length
  rotate_left 1
  · rw [decide_eq_false hij, Bool.false_and]
    by_cases h0 : 0 ≤ i
    · by_cases h1 : i < j
      · have h2 : (j < (row.length : Int)) = False := eq_false fun q => hij ⟨h0, h1, q⟩
        simp -implicitDefEqProofs [a1, a2, hlen, h0, h1, h2, asgTs, asgT]
      · simp -implicitDefEqProofs [a1, a2, hlen, h0, h1, asgTs, asgT]
    · simp -implicitDefEqProofs [a1, a2, hlen, h0, asgTs, asgT]
  rw [decide_eq_true hij, Bool.true_and]
  obtain ⟨h0, h1, h2⟩ := hij
  obtain ⟨i, rfl⟩ := Int.eq_ofNat_of_zero_le h0
  obtain ⟨j, rfl⟩ := Int.eq_ofNat_of_zero_le (show 0 ≤ j by omega)
  have hi : i < row.length := by omega
  have hj : j < row.length := by omega
  rw [Int.toNat_natCast, Int.toNat_natCast, wsP_get hi, wsP_get hj]
  refine wp_seq (fun q => q = (.nx, [some (.imm (.str row)), some (.imm (.tup X)), none, none, none, none])) (fun R hR => ?_) fun q hq => ?_
  · have hR := hR _ rfl
    have h0 : (0 ≤ (i : Int)) = True := eq_true h0
    have h1 : (i < j) = True := eq_true (by omega)
    have h2 : (j < row.length) = True := eq_true (by omega)
    simp -implicitDefEqProofs [a1, a2, hlen, h0, h1, h2]
    exact hR
  subst hq
  have e1 := c_steps (k + 2) row (by omega)
  obtain ⟨zi1, _, _, zi4, _⟩ := g.ck i hi
  obtain ⟨zj1, _, _, zj4, _⟩ := g.ck j hj
  have w1 := c_wordof (k + 1) row (stepsP row) i (by omega) g.sl g.sv hi zi1
  have w2 := c_wordof (k + 1) row (stepsP row) j (by omega) g.sl g.sv hj zj1
  have wl1 := wordP_len (row := row) i (stepsP row)
  have wl2 := wordP_len (row := row) j (stepsP row)
  have l1 := c_least (k + 1) _ zi4 (by omega)
  have l2 := c_least (k + 1) _ zj4 (by omega)
  generalize leastP (wordP row (stepsP row) i) = li at *
  generalize leastP (wordP row (stepsP row) j) = lj at *
  generalize wordP row (stepsP row) i = wi at *
  generalize wordP row (stepsP row) j = wj at *
  generalize nat2 (stepsP row) = Y at *
  have z0 : (0 : Nat) < line := lt_lineN (by omega)
  have z1 : (1 : Nat) < line := lt_lineN (by omega)
  (refine wp_stepX (by conv => lhs; simp -implicitDefEqProofs [e1]) ?_; first | refine wpx_nx ?_ | refine wpx_rt ?_ | skip)
  (refine wp_stepX (by conv => lhs; simp -implicitDefEqProofs [hsl, w1, w2, l1, l2, compL, stepCc, z0, z1]) ?_; first | refine wpx_nx ?_ | refine wpx_rt ?_ | skip)
  (refine wp_stepX (by conv => lhs; simp -implicitDefEqProofs []) ?_; first | refine wpx_nx ?_ | refine wpx_rt ?_ | skip)
  simp -implicitDefEqProofs [asgTs, asgT]
end Sw.k45
namespace Sw.k45
def eqT (row : List Nat) (r : List P) : Bool := match tv row with
  | none => false
  | some u => peqs r [.str u]
theorem peqs2 (x : P) (r : List P) (u : List Nat) : peqs (x :: r) [.str u] = (peq x (.str u) && (match r with | [] => true | _ => false)) := by
  cases r <;> simp [peqs]
theorem eq_pap (row : List Nat) (r : List P) : opSem .eq [.imm (.tup (.str Tu :: r)), .imm (papP (paperL row))] = some (.imm (.bl (eqT row r))) := by
  simp only [opSem, cmpEq, rd, isDic]
  rw [if_pos]
  · unfold eqT tv
    cases paperL row with
    | parted i j =>
      show (some (peq (.tup (.str Tu :: r)) (.tup [.str Pa, .int i, .int j]))).bind ib = _
      simp only [peq, peqs]
      rfl
    | turned u =>
      show (some (peq (.tup (.str Tu :: r)) (.tup [.str Tu, .str u]))).bind ib = _
      simp only [peq, peqs]
      have : (Tu == Tu) = true := by decide
      rw [this, Bool.true_and]
      rfl
  · refine ⟨trivial, trivial, ?_⟩
    have : depth (papP (paperL row)) ≤ 60 := by
      cases paperL row <;> simp [papP, depth, depths]
    omega
theorem eqT_ans {row : List Nat} (g : GR row) (r : List P) : (eqT row r && decide (r.length + 1 = 2)) = ansJ row Tu r := by
  match r with
  | [] =>
    rw [show decide (([] : List P).length + 1 = 2) = false from rfl, Bool.and_false]
    rfl
  | [x] =>
    rw [show decide (([x] : List P).length + 1 = 2) = true from rfl, Bool.and_true]
    have e0 : ansJ row Tu [x] = (match x with
    | .str v => decide (v.length = row.length) && decide (tv row = some v)
    | _ => false) := by
      show (decide (Tu = Tu) && _) = _
      rw [decide_eq_true rfl] <;> rfl
    rw [e0]
    unfold eqT
    cases h : tv row with
    | none => cases x <;> simp
    | some u =>
      have hl : u.length = row.length := by
        unfold tv at h
        cases e : paperL row with
        | parted i j => rw [e] at h; cases h
        | turned w =>
          rw [e] at h
          obtain rfl : w = u := by injection h
          exact (g.pt w e).2.2.1
      simp only
      rw [peqs2]
      cases x <;> simp [peq]
      rename_i s
      by_cases hs : s = u
      · subst hs; simp [hl]
      · have : ¬ u = s := fun q => hs q.symm
        simp [hs, this]
  | x :: y :: z =>
    rw [show decide ((x :: y :: z).length + 1 = 2) = false from decide_eq_false (by simp), Bool.and_false]
    match z with
    | [] =>
      simp only [ansJ]
      rw [decide_eq_false (show ¬ Tu = Pa by decide), Bool.false_and]
    | _ :: _ => rfl
theorem c_ispaper (k : Nat) (row : List Nat) (g : GR row) (v : P) : callF prog G (k + 4) 28 [.imm (.str row), .imm v] = some (.imm (.bl (ansV row v)), [.imm (.str row), .imm v]) := by
  refine wp_is (call_wp (fn := f__law_is_paper) rfl rfl ?_)
  have h6 := g.n6
  have h1 := g.n1
  have hll : row.length ≤ line := le_lineN (by omega)
  have hlen := so_lenS hll
  by_cases ht : ∃ ps, v = .tup ps
  rotate_left 1
  · have e1 : isTy v .tuple = false := by cases v <;> first | rfl | exact absurd ⟨_, rfl⟩ ht
    have e2 : ansV row v = false := by cases v <;> first | rfl | exact absurd ⟨_, rfl⟩ ht
    rw [e2]
    simp -implicitDefEqProofs [f__law_is_paper, b__law_is_paper, e1, asgTs, asgT]
  obtain ⟨ps, rfl⟩ := ht
  have htt : isTy (.tup ps) .tuple = true := rfl
  by_cases hn : ps = []
  · subst hn
    simp -implicitDefEqProofs [f__law_is_paper, b__law_is_paper, htt, ansV, asgTs, asgT]
  obtain ⟨x, r, rfl⟩ : ∃ x r, ps = x :: r := by
    cases ps with
    | nil => exact absurd rfl hn
    | cons x r => exact ⟨x, r, rfl⟩
  clear hn
  have a0 : atP (x :: r) 0 = some x := at_nat (i := 0) (by simp)
  by_cases hx : ∃ t, x = .str t
  rotate_left 1
  · have e2 : isTy x .str = false := by cases x <;> first | rfl | exact absurd ⟨_, rfl⟩ hx
    have e3 : ansV row (.tup (x :: r)) = false := by cases x <;> first | rfl | exact absurd ⟨_, rfl⟩ hx
    rw [e3]
    simp -implicitDefEqProofs [f__law_is_paper, b__law_is_paper, htt, e2, a0, asgTs, asgT]
  obtain ⟨t, rfl⟩ := hx
  have hv : ansV row (.tup (.str t :: r)) = ansJ row t r := rfl
  rw [hv]
  simp only [f__law_is_paper, b__law_is_paper]
  have hty : isTy (.str t) .str = true := rfl
  (refine wp_stepX (by conv => lhs; simp -implicitDefEqProofs [htt, hty, a0]) ?_; first | refine wpx_nx ?_ | refine wpx_rt ?_ | skip)
  by_cases hT : t = Tu
  · subst hT
    have e1 := c_lpaper (k) row g
    have e2 := eq_pap row r
    have e3 := eqT_ans g r
    have hL : opSem .eq [.imm (.int (((P.str Tu :: r).length : Nat) : Int)), .imm (.int 2)] = some (.imm (.bl (decide (r.length + 1 = 2)))) := by
      rw [so_eqI, List.length_cons]
      have : decide ((((r.length + 1 : Nat)) : Int) = 2) = decide (r.length + 1 = 2) := by
        by_cases h : r.length + 1 = 2
        · rw [decide_eq_true h, decide_eq_true (by omega)]
        · rw [decide_eq_false h, decide_eq_false (by omega)]
      rw [this]
    have hlT := so_lenT (ps := P.str Tu :: r)
    rw [← e3]
    generalize decide (r.length + 1 = 2) = B at *
    generalize eqT row r = A at *
    generalize ((P.str Tu :: r).length : Nat) = L at *
    generalize P.str Tu :: r = X at *
    generalize papP (paperL row) = p at *
    have e1 : callF prog G (k + 3) 27 [.imm (.str row)] = some (.imm p, [.imm (.str row)]) := e1
    cases A
    · simp -implicitDefEqProofs [a0, hTu, e1, e2, asgTs, asgT]
    · simp -implicitDefEqProofs [a0, hTu, e1, e2, hlT, asgTs, asgT]
      simpa using hL
  have hT2 : (t = [116, 117, 114, 110, 101, 100]) = False := eq_false hT
  (refine wp_stepX (by conv => lhs; simp -implicitDefEqProofs [a0, hT2]) ?_; first | refine wpx_nx ?_ | refine wpx_rt ?_ | skip)
  have z0 : (0 : Nat) < line := lt_lineN (by omega)
  have z1 : (1 : Nat) < line := lt_lineN (by omega)
  have eI0 := fun (u : P) => c_is_int (k + 2) u
  by_cases hP : t = Pa ∧ ∃ i j, r = [.int i, .int j]
  rotate_left 1
  · have e3 : ansJ row t r = false := by
      match r, hP with
      | [], _ => rfl
      | [x], _ =>
        show (decide (t = Tu) && _) = false
        rw [decide_eq_false hT, Bool.false_and]
      | [x, y], hP =>
        show (decide (t = Pa) && _) = false
        by_cases hpp : t = Pa
        · rw [decide_eq_true hpp, Bool.true_and]
          cases x <;> first
            | rfl
            | (cases y <;> first
              | rfl
              | exact absurd ⟨hpp, _, _, rfl⟩ hP)
        · rw [decide_eq_false hpp, Bool.false_and]
      | x :: y :: z :: r, _ => rfl
    rw [e3]
    by_cases hp : t = Pa
    · subst hp
      by_cases h3 : (P.str Pa :: r).length = 3
      rotate_left 1
      · have hI : ((((P.str Pa :: r).length : Nat) : Int) = 3) = False := eq_false (by omega)
        generalize (P.str Pa :: r) = X at *
        (refine wp_stepX (by conv => lhs; simp -implicitDefEqProofs [a0, hPa, hPT, hI]) ?_; first | refine wpx_nx ?_ | refine wpx_rt ?_ | skip)
        simp -implicitDefEqProofs [asgTs, asgT]
      · obtain ⟨y, z, rfl⟩ : ∃ y z, r = [y, z] := by
          match r, h3 with
          | [y, z], _ => exact ⟨y, z, rfl⟩
        have a0' : atP [P.str Pa, y, z] 0 = some (.str Pa) := a0
        have hsl : slcSem (.imm (.tup [.str Pa, y, z])) (some 1) none = some (.imm (.tup [y, z])) := by
          rw [so_slcT, show (1 : Int) = ((1 : Nat) : Int) from rfl, cut_n0] <;> rfl
        have ey := eI0 y
        have ez := eI0 z
        have hall := so_all [isI y, isI z]
        have hf : ([isI y, isI z].all id) = false := by
          by_cases hy : isI y = true
          · have hz : isI z = false := by
              cases z <;> first
                | rfl
                | (cases y <;> first | exact absurd ⟨rfl, _, _, rfl⟩ hP | cases hy)
            rw [hz]; simp
          · have hy : isI y = false := by simpa using hy
            rw [hy] <;> rfl
        rw [hf] at hall
        have hall : opSem .all [.lst [.bl (isI y), .bl (isI z)]] = some (.imm (.bl false)) := hall
        have hL : [P.str Pa, y, z].length = 3 := rfl
        generalize [P.str Pa, y, z] = X at *
        generalize isI y = by' at *
        generalize isI z = bz' at *
        (refine wp_stepX (by conv => lhs; simp -implicitDefEqProofs [a0', hPa, hPT, hL, hsl, compL, stepCc, ey, ez, hall, z0, z1]) ?_; first | refine wpx_nx ?_ | refine wpx_rt ?_ | skip)
        simp -implicitDefEqProofs [asgTs, asgT]
    · have hP2 : (t = [112, 97, 114, 116, 101, 100]) = False := eq_false hp
      generalize (P.str t :: r) = X at *
      (refine wp_stepX (by conv => lhs; simp -implicitDefEqProofs [a0, hP2]) ?_; first | refine wpx_nx ?_ | refine wpx_rt ?_ | skip)
      simp -implicitDefEqProofs [asgTs, asgT]
  obtain ⟨rfl, i, j, rfl⟩ := hP
  have a0' : atP [P.str Pa, .int i, .int j] 0 = some (.str Pa) := a0
  have hsl : slcSem (.imm (.tup [.str Pa, .int i, .int j])) (some 1) none = some (.imm (.tup [.int i, .int j])) := by
    rw [so_slcT, show (1 : Int) = ((1 : Nat) : Int) from rfl, cut_n0] <;> rfl
  have ey := eI0 (.int i)
  have ez := eI0 (.int j)
  rw [show isI (.int i) = true from rfl] at ey
  rw [show isI (.int j) = true from rfl] at ez
  have hall : opSem .all [.lst [.bl true, .bl true]] = some (.imm (.bl true)) := so_all [true, true]
  have e0 : ansJ row Pa [.int i, .int j] = (decide (0 ≤ i ∧ i < j ∧ j < row.length) && !decide ((wsP row).getD i.toNat [] = (wsP row).getD j.toNat [])) := by
    show (decide (Pa = Pa) && _) = _
    rw [decide_eq_true rfl] <;> rfl
  rw [e0]
  clear e0 a0 hT2 hT
  have hL : [P.str Pa, P.int i, P.int j].length = 3 := rfl
  generalize [P.str Pa, P.int i, .int j] = X at *
  (refine wp_stepX (by conv => lhs; simp -implicitDefEqProofs [a0', hPa, hPT, hL, hsl, compL, stepCc, ey, ez, hall, z0, z1]) ?_; first | refine wpx_nx ?_ | refine wpx_rt ?_ | skip)
  (refine wp_stepX (by conv => lhs; simp -implicitDefEqProofs [hsl]) ?_; first | refine wpx_nx ?_ | refine wpx_rt ?_ | skip)
  by_cases hij : 0 ≤ i ∧ i < j ∧ j < row.length
  rotate_left 1
  · rw [decide_eq_false hij, Bool.false_and]
    by_cases h0 : 0 ≤ i
    · by_cases h1 : i < j
      · have h2 : (j < (row.length : Int)) = False := eq_false fun q => hij ⟨h0, h1, q⟩
        simp -implicitDefEqProofs [hlen, h0, h1, h2, asgTs, asgT]
      · simp -implicitDefEqProofs [hlen, h0, h1, asgTs, asgT]
    · simp -implicitDefEqProofs [hlen, h0, asgTs, asgT]
  rw [decide_eq_true hij, Bool.true_and]
  obtain ⟨h0, h1, h2⟩ := hij
  obtain ⟨i, rfl⟩ := Int.eq_ofNat_of_zero_le h0
  obtain ⟨j, rfl⟩ := Int.eq_ofNat_of_zero_le (show 0 ≤ j by omega)
  have hi : i < row.length := by omega
  have hj : j < row.length := by omega
  rw [Int.toNat_natCast, Int.toNat_natCast, wsP_get hi, wsP_get hj]
  obtain ⟨zi1, zi2, zi3, zi4, _⟩ := g.ck i hi
  obtain ⟨zj1, zj2, zj3, zj4, _⟩ := g.ck j hj
  have w1 := c_lcircle (k + 1) row i (by omega) (by rw [← g.seq]; exact g.sl) (by rw [← g.seq]; exact g.sv) hi
  have w2 := c_lcircle (k + 1) row j (by omega) (by rw [← g.seq]; exact g.sl) (by rw [← g.seq]; exact g.sv) hj
  rw [← g.seq] at w1 w2
  rw [zi3, zj3]
  rw [zi2] at zi4 zi3 ⊢
  rw [zj2] at zj4 zj3 ⊢
  have wl1 := wordP_len (row := row) i (stepsP row)
  have wl2 := wordP_len (row := row) j (stepsP row)
  rw [zi2] at wl1
  rw [zj2] at wl2
  have l1 := c_lleast (k + 1) _ zi4 (by omega)
  have l2 := c_lleast (k + 1) _ zj4 (by omega)
  generalize leastL (wordL row (stepsP row) i) = li at *
  generalize leastL (wordL row (stepsP row) j) = lj at *
  generalize wordL row (stepsP row) i = wi at *
  generalize wordL row (stepsP row) j = wj at *
  have h0 : (0 ≤ (i : Int)) = True := eq_true h0
  have h1 : (i < j) = True := eq_true (by omega)
  have h2 : (j < row.length) = True := eq_true (by omega)
  (refine wp_stepX (by conv => lhs; simp -implicitDefEqProofs [hlen, h0, h1, h2]) ?_; first | refine wpx_nx ?_ | refine wpx_rt ?_ | skip)
  (refine wp_stepX (by conv => lhs; simp -implicitDefEqProofs [w1, w2, l1, l2]) ?_; first | refine wpx_nx ?_ | refine wpx_rt ?_ | skip)
  simp -implicitDefEqProofs [asgTs, asgT]
end Sw.k45
namespace Sw.k45
def Seen (kvs : List (P × P)) (seen : List Nat) : Prop := kvs.length ≤ seen.length ∧ ∀ k : Nat, (getKV kvs (.int (k : Int))).isSome = mem k seen
theorem mem_app (k : Nat) (a b : List Nat) : mem k (a ++ b) = (mem k a || mem k b) := by
  rw [Bool.eq_iff_iff, Bool.or_eq_true, mem_is, mem_is, mem_is, List.mem_append]
theorem Seen.put {kvs : List (P × P)} {seen : List Nat} (h : Seen kvs seen) (p : Nat) (v : P) : Seen (putKV kvs (.int (p : Int)) v) (seen ++ [p]) := by
  refine ⟨?_, fun k => ?_⟩
  · have := putKV_len kvs (.int (p : Int)) v
    have := h.1
    simp
    omega
  · rw [getKV_put, mem_app, ← h.2 k]
    by_cases hk : p = k
    · subst hk
      have : mem p [p] = true := (mem_is p [p]).mpr (by simp)
      simp [this]
    · have h1 : ¬ P.int (p : Int) = .int (k : Int) := fun e => hk (by injection e with e; omega)
      have : mem k [p] = false := by
        cases q : mem k [p] with
        | false => rfl
        | true => exact absurd (List.mem_singleton.mp ((mem_is k [p]).mp q)).symm hk
      simp [h1, this]
/-- the walk over the places left -/
theorem neck_cons (row s : List Nat) (k : Nat) (ks seen : List Nat) : neck row s (k :: ks) seen = bif mem k seen then neck row s ks seen else leastP (wordP row s k) :: neck row s ks (seen ++ circ s k row.length k) := by
  show (bif mem k seen then neck row s ks seen else fcs (wordP row s k) leastP :: neck row s ks (seen ++ circ s k row.length k)) = _
  rw [fcs_eq]
theorem neck_len (row s : List Nat) : ∀ (ks seen : List Nat), (neck row s ks seen).length ≤ ks.length
  | [], _ => Nat.le_refl _
  | k :: ks, seen => by
    rw [neck_cons]
    cases mem k seen with
    | true => have := neck_len row s ks seen; simp; omega
    | false => have := neck_len row s ks (seen ++ circ s k row.length k); simp; omega
theorem neck_wl {row : List Nat} (g : GR row) : ∀ (ks seen : List Nat), (∀ k ∈ ks, k < row.length) → ∀ w ∈ neck row (stepsP row) ks seen, w.length ≤ 7
  | [], _, _, w, h => nomatch h
  | k :: ks, seen, hk, w, h => by
    rw [neck_cons] at h
    cases q : mem k seen with
    | true => rw [q] at h; exact neck_wl g ks seen (fun j hj => hk j (List.mem_cons_of_mem _ hj)) w h
    | false =>
      rw [q] at h
      rcases List.mem_cons.mp h with rfl | h
      · obtain ⟨_, _, _, z4, _⟩ := g.ck k (hk k List.mem_cons_self)
        rw [leastP_len z4]
        have := wordP_len (row := row) k (stepsP row)
        have := g.n6
        omega
      · exact neck_wl g ks _ (fun j hj => hk j (List.mem_cons_of_mem _ hj)) w h
def tupS (ws : List (List Nat)) : D := .imm (.tup (ws.map P.str))
theorem c_neck (k : Nat) (row : List Nat) (g : GR row) : callF prog G (k + 4) 11 [.imm (.str row)] = some (tupS (neckP row), [.imm (.str row)]) := by
  refine wp_is (call_wp (fn := f_necklaces_of) rfl rfl ?_)
  have h6 := g.n6
  have h1 := g.n1
  have hll : row.length ≤ line := le_lineN (by omega)
  have hlen := so_lenS hll
  simp only [f_necklaces_of, b_necklaces_of]
  have e1 := c_steps (k + 2) row (by omega)
  (refine wp_stepX (by conv => lhs; simp -implicitDefEqProofs [e1]) ?_; first | refine wpx_nx ?_ | refine wpx_rt ?_ | skip)
  (refine wp_stepX (by conv => lhs; simp -implicitDefEqProofs []) ?_; first | refine wpx_nx ?_ | refine wpx_rt ?_ | skip)
  (refine wp_stepX (by conv => lhs; simp -implicitDefEqProofs []) ?_; first | refine wpx_nx ?_ | refine wpx_rt ?_ | skip)
  have hnk := neck_wl g (List.range row.length) [] fun j hj => List.mem_range.mp hj
  have hnl := neck_len row (stepsP row) (List.range row.length) []
  rw [List.length_range] at hnl
  have hnP : neckP row = bySize (neck row (stepsP row) (List.range row.length) []) := rfl
  rw [hnP]
  generalize hN : neck row (stepsP row) (List.range row.length) [] = N at *
  refine wp_fors (fun i e => ∃ (kvs : List (P × P)) (seen : List Nat) (F : List (List Nat)) (y z : Option D), Seen kvs seen ∧ seen.length ≤ i * 7 ∧ F.length ≤ i ∧ F ++ neck row (stepsP row) ((List.range row.length).drop i) seen = N ∧ e = [some (.imm (.str row)), some (.lst (nat2 (stepsP row))), some (.dic false kvs), some (.lst (F.map P.str)), y, z, none, none]) (ps := (List.range row.length).map fun k : Nat => P.int (k : Int)) (os := [.tmp (.imm (.int row.length))]) (by simp -implicitDefEqProofs [itm, hlen, it_rng1 (show row.length ≤ 1000000 by omega)]) (by simp) ⟨[], [], [], none, none, ⟨Nat.le_refl _, fun k => rfl⟩, by simp, by simp, hN, rfl⟩ (fun i p e hp hi => ?_) (fun e hi => ?_)
  · obtain ⟨kvs, seen, F, y, z, hS, hsl, hFl, hF, rfl⟩ := hi
    obtain ⟨hin, rfl⟩ := rng_get hp
    have hdr : (List.range row.length).drop i = i :: (List.range row.length).drop (i + 1) := by
      rw [List.drop_eq_getElem_cons (by simpa using hin)]
      simp
    rw [hdr, neck_cons] at hF
    have hno := so_notinK (kvs := kvs) (p := .int (i : Int)) rfl
    rw [hS.2 i] at hno
    refine wp_bnd (by conv => lhs; simp -implicitDefEqProofs []) ?_
    cases hm : mem i seen with
    | true =>
      rw [hm] at hF hno
      (refine wp_ifF (by conv => lhs; simp -implicitDefEqProofs [tst, hno]) ?_; try simp only [List.cons_append, List.nil_append])
      exact wp_end ⟨rfl, kvs, seen, F, _, z, hS, by omega, by omega, hF, rfl⟩
    | false =>
      rw [hm] at hF hno
      have hF : F ++ leastP (wordP row (stepsP row) i) :: neck row (stepsP row) ((List.range row.length).drop (i + 1)) (seen ++ circ (stepsP row) i row.length i) = N := hF
      obtain ⟨zi1, zi2, zi3, zi4, _⟩ := g.ck i hin
      have w1 := c_wordof (k + 1) row (stepsP row) i (by omega) g.sl g.sv hin zi1
      have wl1 := wordP_len (row := row) i (stepsP row)
      have l1 := c_least (k + 1) _ zi4 (by omega)
      have cc := c_circ (k + 2) (stepsP row) i row.length g.sl g.sv (by omega) hin zi1
      have ccl := circ_len (s := stepsP row) (p := i) row.length i
      have hap := mu_app (ps := F.map P.str) (p := .str (leastP (wordP row (stepsP row) i))) (lt_lineN (by rw [List.length_map]; omega))
      have hap2 : F.map P.str ++ [.str (leastP (wordP row (stepsP row) i))] = (F ++ [leastP (wordP row (stepsP row) i)]).map P.str := by simp
      rw [hap2] at hap
      (refine wp_ifT (by conv => lhs; simp -implicitDefEqProofs [tst, hno]) ?_; try simp only [List.cons_append, List.nil_append])
      refine wp_fors (fun j e => ∃ kvs2 z, Seen kvs2 (seen ++ (circ (stepsP row) i row.length i).take j) ∧ e = [some (.imm (.str row)), some (.lst (nat2 (stepsP row))), some (.dic false kvs2), some (.lst (F.map P.str)), some (.imm (.int (i : Int))), z, none, none]) (ps := nat2 (circ (stepsP row) i row.length i)) (os := [.tmp (.lst (nat2 (circ (stepsP row) i row.length i)))]) (by simp -implicitDefEqProofs [itm, cc]) (by simp) ⟨kvs, z, by simpa using hS, rfl⟩ (fun j p e hp hi => ?_) (fun e hi => ?_)
      · obtain ⟨kvs2, z2, hS2, rfl⟩ := hi
        generalize circ (stepsP row) i row.length i = C at *
        obtain ⟨c, hc, rfl⟩ : ∃ c, C[j]? = some c ∧ p = .int (c : Int) := by
          unfold nat2 at hp
          rw [List.getElem?_map] at hp
          cases q : C[j]? with
          | none => rw [q] at hp; cases hp
          | some c => rw [q] at hp; cases hp; exact ⟨c, rfl, rfl⟩
        have hS3 := hS2.put c (.bl true)
        rw [List.append_assoc, show C.take j ++ [c] = C.take (j + 1) by rw [List.take_add_one, hc] <;> rfl] at hS3
        have hjl : j < C.length := (List.getElem?_eq_some_iff.mp hc).1
        have hk : kvs2.length < line := lt_lineN (by have := hS2.1; rw [List.length_append, List.length_take] at this; omega)
        refine wp_bnd (by conv => lhs; simp -implicitDefEqProofs []) ?_
        (refine wp_stepX (by conv => lhs; simp -implicitDefEqProofs [hk]) ?_; first | refine wpx_nx ?_ | refine wpx_rt ?_ | skip)
        exact wp_end ⟨rfl, _, _, hS3, rfl⟩
      · obtain ⟨kvs2, z2, hS2, rfl⟩ := hi
        rw [nat2_len, List.take_length] at hS2
        generalize leastP (wordP row (stepsP row) i) = li at *
        generalize wordP row (stepsP row) i = wi at *
        (refine wp_stepX (by conv => lhs; simp -implicitDefEqProofs [w1, l1, hap]) ?_; first | refine wpx_nx ?_ | refine wpx_rt ?_ | skip)
        exact wp_end ⟨rfl, kvs2, seen ++ circ (stepsP row) i row.length i, F ++ [li], _, z2, hS2, by rw [List.length_append]; omega, by simp; omega, by rw [List.append_assoc]; exact hF, by rw [List.map_append]; rfl⟩
  obtain ⟨kvs, seen, F, y, z, hS, hsl, hFl, hF, rfl⟩ := hi
  rw [List.length_map, List.length_range, List.drop_of_length_le (by simp)] at hF
  have hF : F ++ [] = N := hF
  rw [List.append_nil] at hF
  subst hF
  generalize nat2 (stepsP row) = Y at *
  have hNl : F.length ≤ line := le_lineN (by omega)
  refine wp_stepX (x := some (.rt (tupS (bySize F)), [some (.imm (.str row)), some (.lst Y), some (.dic false kvs), some (.lst (F.map P.str)), y, z, none, none])) ?_ ?_
  · refine wp_is ?_
    simp -implicitDefEqProofs [-List.map_map]
    refine wp_eq (comp_map P.str (fun w => pIS (w.length, w)) (fun _ => true) hNl fun w hw acc hacc => ?_) ?_
    · have e2 := so_lenS (s := w) (le_lineN (by have := hnk w hw; omega))
      have z2 : (2 : Nat) ≤ line := le_lineN (by omega)
      simp -implicitDefEqProofs [stepCc, e2, z2, hacc, pIS]
    · rw [map_true, show F.map (fun w => pIS (w.length, w)) = (F.map fun w => (w.length, w)).map pIS by rw [List.map_map] <;> rfl]
      have hs := so_sortIS (l := F.map fun w => (w.length, w)) (by rw [List.length_map]; exact hNl)
      have hil : (isort lwlt (F.map fun w => (w.length, w))).length = F.length := by rw [(isort_perm _).length_eq, List.length_map]
      have hb : bySize F = (isort lwlt (F.map fun w => (w.length, w))).map (·.2) := rfl
      have hbm : tupS (bySize F) = .imm (.tup ((isort lwlt (F.map fun w => (w.length, w))).map fun q => P.str q.2)) := by
        unfold tupS
        rw [hb, List.map_map] <;> rfl
      rw [hbm]
      generalize (F.map fun w => (w.length, w)).map pIS = X at *
      generalize isort lwlt (F.map fun w => (w.length, w)) = L at *
      simp -implicitDefEqProofs [-List.map_map, hs]
      refine wp_eq (comp_map pIS (fun q => P.str q.2) (fun _ => true) (by omega) fun q hq acc hacc => ?_) ?_
      · simp -implicitDefEqProofs [stepCc, hacc, pIS]
      · rw [map_true]
        have ht := so_tupL (ps := L.map fun q => P.str q.2) (by rw [List.length_map]; omega)
        generalize (L.map fun q => P.str q.2) = Z at *
        simp -implicitDefEqProofs [ht]
  · refine wpx_rt ?_
    simp -implicitDefEqProofs [asgTs, asgT]
end Sw.k45
namespace Sw.k45
theorem maxN_spec : ∀ (xs : List Nat) (m : Nat), maxN m xs ∈ m :: xs ∧ ∀ q ∈ m :: xs, q ≤ maxN m xs
  | [], m => ⟨List.mem_singleton.mpr rfl, fun q hq => by rw [List.mem_singleton.mp hq]; exact Nat.le_refl _⟩
  | x :: xs, m => by
    unfold maxN
    rw [blt_is]
    by_cases h : m < x
    · rw [decide_eq_true h, cond_true]
      obtain ⟨h1, h2⟩ := maxN_spec xs x
      refine ⟨List.mem_cons_of_mem _ h1, fun q hq => ?_⟩
      rcases List.mem_cons.mp hq with rfl | hq
      · exact Nat.le_trans (Nat.le_of_lt h) (h2 x List.mem_cons_self)
      · exact h2 q hq
    · rw [decide_eq_false h, cond_false]
      obtain ⟨h1, h2⟩ := maxN_spec xs m
      refine ⟨(List.mem_cons.mp h1).elim (fun e => by rw [e]; exact List.mem_cons_self) fun e => List.mem_cons_of_mem _ (List.mem_cons_of_mem _ e), fun q hq => ?_⟩
      rcases List.mem_cons.mp hq with rfl | hq
      · exact h2 q List.mem_cons_self
      · rcases List.mem_cons.mp hq with rfl | hq
        · exact Nat.le_trans (Nat.le_of_not_lt h) (h2 m List.mem_cons_self)
        · exact h2 q (List.mem_cons_of_mem _ hq)
theorem longest_is {ws : List (List Nat)} (h : ws ≠ []) : opSem .maxL [.lst (nat2 (ws.map List.length))] = some (.imm (.int (longest ws : Int))) ∧ ∃ w ∈ ws, longest ws = w.length := by
  obtain ⟨m, hm, h1, h2⟩ := so_maxNat (l := ws.map List.length) (by simpa using h)
  have e : longest ws = m := by
    unfold longest
    cases q : ws.map List.length with
    | nil => simp at q; exact absurd q h
    | cons x xs =>
      rw [q] at hm h2
      obtain ⟨h3, h4⟩ := maxN_spec xs x
      exact Nat.le_antisymm (h2 _ h3) (h4 _ hm)
  rw [e]
  refine ⟨h1, ?_⟩
  obtain ⟨w, hw, e2⟩ := List.mem_map.mp hm
  exact ⟨w, hw, e2.symm⟩
def roww (m : Nat) (r : List Nat) : List Nat × Nat := ((times r (2 * m / r.length + 1)).take (2 * m), lastC r)
theorem rowRows_is (ws : List (List Nat)) (m : Nat) : rowRows ws m = ws.flatMap fun w => (rots w).map (roww m) := by
  unfold rowRows
  rw [List.flatMap_def] <;> rfl
theorem rows_le {N : Nat} : ∀ {ws : List (List Nat)}, (∀ w ∈ ws, w.length ≤ N) → ∀ m, (ws.flatMap fun w => (rots w).map (roww m)).length ≤ ws.length * N
  | [], _, m => by simp
  | w :: ws, h, m => by
    rw [List.flatMap_cons, List.length_append, List.length_map, rots_len, List.length_cons, Nat.add_mul]
    have := rows_le (fun w hw => h w (List.mem_cons_of_mem _ hw)) (ws := ws) m
    have := h w List.mem_cons_self
    omega
theorem c_rowof (k : Nat) (ws : List (List Nat)) (h0 : ws ≠ []) (hl : ws.length ≤ 20) (hw : ∀ w ∈ ws, w ≠ [] ∧ w.length ≤ 20) : callF prog G (k + 2) 12 [tupS ws] = some (.imm (.str (rowOf ws)), [tupS ws]) := by
  refine wp_is (call_wp (fn := f_row_of) rfl rfl ?_)
  simp only [f_row_of, b_row_of]
  obtain ⟨hm1, w0, hw0, hm2⟩ := longest_is h0
  have hm3 := (hw w0 hw0).2
  have hro : rowOf ws = (isort wclt (ws.flatMap fun w => (rots w).map (roww (longest ws)))).map (·.2) := by
    unfold rowOf
    rw [fps_eq, rowRows_is]
  rw [hro]
  have hRl := rows_le (fun w h => (hw w h).2) (longest ws)
  rw [← hm2] at hm3
  generalize longest ws = m at *
  clear hm2
  refine wp_stepX (x := some (.nx, [some (tupS ws), some (.imm (.int (m : Int))), none, none, none, none, none])) (wp_is ?_) (wpx_nx ?_)
  · unfold tupS
    simp -implicitDefEqProofs
    refine wp_eq (comp_all P.str (fun w => P.int (w.length : Int)) (le_lineN (by omega)) fun w hww acc hacc => ?_) ?_
    · have hlen := so_lenS (s := w) (le_lineN (by have := (hw w hww).2; omega))
      simp -implicitDefEqProofs [stepCc, hlen, hacc]
    · have e : ws.map (fun w => P.int (w.length : Int)) = nat2 (ws.map List.length) := by unfold nat2; rw [List.map_map] <;> rfl
      rw [e]
      generalize nat2 (ws.map List.length) = X at *
      simp -implicitDefEqProofs [hm1]
  (refine wp_stepX (by conv => lhs; simp -implicitDefEqProofs []) ?_; first | refine wpx_nx ?_ | refine wpx_rt ?_ | skip)
  refine wp_fors0 (fun i e => ∃ x3 x4 x5, e = [some (tupS ws), some (.imm (.int (m : Int))), some (.lst (((ws.take i).flatMap fun w => (rots w).map (roww m)).map pSS)), x3, x4, x5, none]) (ps := ws.map P.str) (os := [.tmp (tupS ws)]) (by unfold tupS; simp -implicitDefEqProofs [itm]) (by simp) ⟨none, none, none, rfl⟩ (fun i p e hp hi => ?_) (fun e hi => ?_)
  · obtain ⟨x3, x4, x5, rfl⟩ := hi
    obtain ⟨w, hwi, rfl⟩ : ∃ w, ws[i]? = some w ∧ p = .str w := by
      rw [List.getElem?_map] at hp
      cases q : ws[i]? with
      | none => rw [q] at hp; cases hp
      | some c => rw [q] at hp; cases hp; exact ⟨c, rfl, rfl⟩
    obtain ⟨hwn, hwl⟩ := hw w (List.mem_of_getElem? hwi)
    have hta : ws.take (i + 1) = ws.take i ++ [w] := by rw [List.take_add_one, hwi] <;> rfl
    have hbd := rows_le (N := 20) (fun w h => (hw w (List.mem_of_mem_take h)).2) (ws := ws.take (i + 1)) m
    have hil : (ws.take (i + 1)).length ≤ 20 := by rw [List.length_take]; omega
    rw [hta, List.flatMap_append, List.length_append, List.flatMap_singleton, List.length_map] at hbd
    have hil2 := Nat.mul_le_mul_right 20 hil
    rw [hta] at hil2
    have e1 := c_rot k w (by omega)
    refine wp_bnd (by conv => lhs; simp -implicitDefEqProofs []) ?_
    refine wp_fors0 (fun j e => ∃ x4 x5, e = [some (tupS ws), some (.imm (.int (m : Int))), some (.lst (((ws.take i).flatMap fun w => (rots w).map (roww m)).map pSS ++ ((rots w).take j).map fun r => pSS (roww m r))), some (.imm (.str w)), x4, x5, none]) (ps := (rots w).map P.str) (os := [.tmp (.lst ((rots w).map P.str))]) (by simp -implicitDefEqProofs [itm, e1]) (by simp) ⟨x4, x5, by simp⟩ (fun j p e hp hj => ?_) (fun e hj => ?_)
    · obtain ⟨x4, x5, rfl⟩ := hj
      obtain ⟨r, hrj, rfl⟩ : ∃ r, (rots w)[j]? = some r ∧ p = .str r := by
        rw [List.getElem?_map] at hp
        cases q : (rots w)[j]? with
        | none => rw [q] at hp; cases hp
        | some c => rw [q] at hp; cases hp; exact ⟨c, rfl, rfl⟩
      have hjl : j < (rots w).length := (List.getElem?_eq_some_iff.mp hrj).1
      obtain ⟨hrl, _⟩ := rots_mem (List.mem_of_getElem? hrj)
      have hr0 : 0 < r.length := by rw [hrl]; exact List.length_pos_iff.mpr hwn
      have hrn : r ≠ [] := List.length_pos_iff.mp hr0
      have hll : r.length ≤ line := le_lineN (by omega)
      have hlen := so_lenS hll
      have hmul1 : opSem .mul [.imm (.int 2), .imm (.int (m : Int))] = some (.imm (.int ((2 * m : Nat) : Int))) := by
        rw [so_mul (mul_l (by decide))] <;> rfl
      have hdiv := so_fdivN (a := 2 * m) (b := r.length) hr0 (by omega)
      have hq : 2 * m / r.length ≤ 2 * m := Nat.div_le_self _ _
      have hadd : opSem .add [.imm (.int ((2 * m / r.length : Nat) : Int)), .imm (.int 1)] = some (.imm (.int ((2 * m / r.length + 1 : Nat) : Int))) := rfl
      have hmulW := so_mulW (s := r) (n := 2 * m / r.length + 1) (le_lineN (Nat.le_trans (Nat.mul_le_mul (show r.length ≤ 20 by omega) (show 2 * m / r.length + 1 ≤ 41 by omega)) (by decide))) (by omega)
      rw [← times_is] at hmulW
      have htl := times_len r (2 * m / r.length + 1)
      have htl2 : (times r (2 * m / r.length + 1)).length ≤ 1000 := by
        rw [htl]
        exact Nat.le_trans (Nat.mul_le_mul (show 2 * m / r.length + 1 ≤ 41 by omega) (show r.length ≤ 20 by omega)) (by decide)
      have hcut : slcSem (.imm (.str (times r (2 * m / r.length + 1)))) none (some ((2 * m : Nat) : Int)) = some (.imm (.str ((times r (2 * m / r.length + 1)).take (2 * m)))) := by
        rw [so_slcS (le_lineN (by omega)), cut_0n]
      have hlast := last_at hrn hll
      have hps : pSS (roww m r) = .tup [.str ((times r (2 * m / r.length + 1)).take (2 * m)), .str [lastC r]] := rfl
      generalize hrw : pSS (roww m r) = pr at *
      generalize (times r (2 * m / r.length + 1)).take (2 * m) = tk at *
      generalize times r (2 * m / r.length + 1) = tt at *
      generalize ((2 * m / r.length + 1 : Nat) : Int) = q1 at *
      generalize ((2 * m / r.length : Nat) : Int) = q2 at *
      generalize ((2 * m : Nat) : Int) = q3 at *
      generalize [lastC r] = lc at *
      have htj : (rots w).take (j + 1) = (rots w).take j ++ [r] := by rw [List.take_add_one, hrj] <;> rfl
      have hap := mu_app (ps := ((ws.take i).flatMap fun w => (rots w).map (roww m)).map pSS ++ ((rots w).take j).map fun r => pSS (roww m r)) (p := pr) (lt_lineN (by rw [List.length_append, List.length_map, List.length_map, List.length_take]; omega))
      rw [hps] at hap
      have hfin : (((ws.take i).flatMap fun w => (rots w).map (roww m)).map pSS ++ (((rots w).take j).map fun r => pSS (roww m r))) ++ [P.tup [.str tk, .str lc]] = ((ws.take i).flatMap fun w => (rots w).map (roww m)).map pSS ++ (((rots w).take (j + 1)).map fun r => pSS (roww m r)) := by
        rw [htj, List.map_append, List.append_assoc, ← hps, ← hrw] <;> rfl
      rw [hfin] at hap
      generalize ((ws.take i).flatMap fun w => (rots w).map (roww m)).map pSS ++ (((rots w).take (j + 1)).map fun r => pSS (roww m r)) = Y at *
      generalize ((ws.take i).flatMap fun w => (rots w).map (roww m)).map pSS ++ (((rots w).take j).map fun r => pSS (roww m r)) = X at *
      refine wp_bnd (by conv => lhs; simp -implicitDefEqProofs []) ?_
      (refine wp_stepX (by conv => lhs; simp -implicitDefEqProofs [hmul1, hlen, hdiv, hadd, hmulW]) ?_; first | refine wpx_nx ?_ | refine wpx_rt ?_ | skip)
      (refine wp_stepX (by conv => lhs; simp -implicitDefEqProofs [hmul1, hcut, hlast, hap]) ?_; first | refine wpx_nx ?_ | refine wpx_rt ?_ | skip)
      exact wp_end ⟨rfl, _, _, rfl⟩
    · obtain ⟨x4, x5, rfl⟩ := hj
      rw [List.length_map, List.take_length]
      have hz : ((ws.take i).flatMap fun w => (rots w).map (roww m)).map pSS ++ ((rots w).map fun r => pSS (roww m r)) = ((ws.take (i + 1)).flatMap fun w => (rots w).map (roww m)).map pSS := by
        rw [hta, List.flatMap_append, List.flatMap_singleton, List.map_append, List.map_map] <;> rfl
      rw [hz]
      exact wp_end ⟨rfl, _, _, _, rfl⟩
  · obtain ⟨x3, x4, x5, rfl⟩ := hi
    rw [List.length_map, List.take_length]
    generalize (ws.flatMap fun w => (rots w).map (roww m)) = L at *
    have hLl : L.length ≤ line := le_lineN (by have := Nat.mul_le_mul_right 20 hl; omega)
    have hs := so_sortWC hLl
    have hil : (isort wclt L).length = L.length := (isort_perm _).length_eq
    have hj := so_joinC (w := (isort wclt L).map (·.2)) (by rw [List.length_map, hil]; exact hLl)
    have hje : (((isort wclt L).map (·.2)).map fun c => [c]).map P.str = (isort wclt L).map fun q => P.str [q.2] := by
      rw [List.map_map, List.map_map] <;> rfl
    rw [hje] at hj
    generalize L.map pSS = X at *
    generalize hZ : (isort wclt L).map (·.2) = Z at *
    refine wp_stepX (x := some (.rt (.imm (.str Z)), [some (tupS ws), some (.imm (.int (m : Int))), some (.lst X), x3, x4, keepImm x5, none])) (wp_is ?_) (wpx_rt ?_)
    · simp -implicitDefEqProofs [-List.map_map, rcvOk, hs]
      refine wp_eq (comp_all pSS (fun q => P.str [q.2]) (by omega) fun q hq acc hacc => ?_) ?_
      · simp -implicitDefEqProofs [stepCc, pSS, hacc]
      · generalize ((isort wclt L).map fun q => P.str [q.2]) = V at *
        simp -implicitDefEqProofs [hj, rcvOk]
    · unfold tupS
      simp -implicitDefEqProofs [asgTs, asgT]
end Sw.k45

namespace Sw.k45
theorem okW_facts {w : List Nat} (h1 : 1 ≤ w.length) (h6 : w.length ≤ 6) (ha : Abc w) : readP (turn w).1 (turn w).2 = some w ∧ ∃ v, paperL (turn w).1 = .turned v := by
  have ok := okW_all w h1 h6 ha
  unfold okW at ok
  rw [turnK_eq, Bool.and_eq_true] at ok
  obtain ⟨o1, o2⟩ := ok
  constructor
  · cases e : readP (turn w).1 (turn w).2 with
    | none => rw [e] at o1; cases o1
    | some v => rw [e] at o1; rw [eqb_iff.mp o1]
  · cases e : paperL (turn w).1 with
    | parted i j => rw [e] at o2; cases o2
    | turned v => exact ⟨v, rfl⟩
theorem turn_mem {w : List Nat} {c : Nat} (hw : w ≠ []) (h : c ∈ (turn w).1) : c ∈ w := by
  unfold turn at h
  obtain ⟨r, hr, rfl⟩ := List.mem_map.mp h
  obtain ⟨h1, h2⟩ := rows_ok hw hr
  refine ((rots_mem ((isort_perm _).mem_iff.mp hr)).2 _).mp ?_
  unfold lastC
  rw [List.getLastD_eq_getLast?, List.getLast?_eq_some_getLast h1]
  exact List.getLast_mem h1
theorem gr_all {row : List Nat} (h1 : 1 ≤ row.length) (h6 : row.length ≤ 6) (ha : Abc row) : GR row := gr_of h1 h6 (okR_all row h1 h6 ha)
theorem read_turn {row v : List Nat} {k : Nat} (h : readP row k = some v) : (turn v).1 = row ∧ (turn v).2 = k := by
  unfold readP at h
  cases q : Nat.ble row.length k with
  | true => rw [q] at h; cases h
  | false =>
    rw [q] at h
    simp only [cond_false, fis_eq, fcs_eq, turnK_eq] at h
    cases q2 : Nat.beq (row.length % (wordP row (stepsP row) k).length) 0 with
    | false => rw [q2] at h; cases h
    | true =>
      rw [q2, cond_true] at h
      generalize times (wordP row (stepsP row) k) (row.length / (wordP row (stepsP row) k).length) = u at *
      cases q3 : eqb (turn u).1 row && Nat.beq (turn u).2 k with
      | false => rw [q3] at h; cases h
      | true =>
        rw [q3, cond_true] at h
        obtain rfl : u = v := by injection h
        rw [Bool.and_eq_true] at q3
        exact ⟨eqb_iff.mp q3.1, Nat.eq_of_beq_eq_true q3.2⟩
def sizesL (A other : List Nat) : List (List Nat) := (allW A other.length).filter fun w => decide ((turn w).1 = other)
def fitsL (A other : List Nat) (at' : Nat) : List (List Nat) := (sizesL A other).filter fun w => decide ((turn w).2 = at')
theorem sizes_mem {A other w : List Nat} : w ∈ sizesL A other ↔ (w.length = other.length ∧ ∀ c ∈ w, c ∈ A) ∧ (turn w).1 = other := by
  unfold sizesL
  rw [List.mem_filter, allW_mem, decide_eq_true_iff]
theorem fits_is {A other : List Nat} {p : Nat} (hA : Abc A) (ho : ∀ c ∈ other, c ∈ A) (h1 : 1 ≤ other.length) (h6 : other.length ≤ 6) (hp : p < other.length) : (fitsL A other p).head? = readP other p := by
  have g := gr_all h1 h6 (fun c hc => hA c (ho c hc))
  have hu : ∀ u ∈ fitsL A other p, readP other p = some u := fun u hu => by
    unfold fitsL at hu
    rw [List.mem_filter, sizes_mem, decide_eq_true_iff] at hu
    obtain ⟨⟨⟨u1, u2⟩, u3⟩, u4⟩ := hu
    have := (okW_facts (w := u) (by omega) (by omega) (fun c hc => hA c (u2 c hc))).1
    rw [u3, u4] at this
    exact this
  cases e : fitsL A other p with
  | cons u us =>
    rw [hu u (by rw [e]; exact List.mem_cons_self)] <;> rfl
  | nil =>
    cases q : readP other p with
    | none => rfl
    | some v =>
      exfalso
      obtain ⟨v1, v2⟩ := read_turn q
      obtain ⟨_, _, _, _, z⟩ := g.ck p hp
      obtain ⟨z1, z2⟩ := z v q
      have : v ∈ fitsL A other p := by
        unfold fitsL
        rw [List.mem_filter, sizes_mem, decide_eq_true_iff]
        exact ⟨⟨⟨z1, fun c hc => ho c (z2 c hc)⟩, v1⟩, v2⟩
      rw [e] at this
      cases this
theorem isT_sizes {A other : List Nat} (hA : Abc A) (ho : ∀ c ∈ other, c ∈ A) (h1 : 1 ≤ other.length) (h6 : other.length ≤ 6) : (paperP other).isT = decide (0 < (sizesL A other).length) := by
  have g := gr_all h1 h6 (fun c hc => hA c (ho c hc))
  rw [g.pp]
  cases e : sizesL A other with
  | cons u us =>
    have hu : u ∈ sizesL A other := by rw [e]; exact List.mem_cons_self
    obtain ⟨⟨u1, u2⟩, u3⟩ := sizes_mem.mp hu
    obtain ⟨v, hv⟩ := (okW_facts (w := u) (by omega) (by omega) (fun c hc => hA c (u2 c hc))).2
    rw [u3] at hv
    rw [hv]
    simp [Pap.isT]
  | nil =>
    cases q : paperL other with
    | parted i j => rfl
    | turned v =>
      exfalso
      obtain ⟨_, p2, p3, p4⟩ := g.pt v q
      have : v ∈ sizesL A other := sizes_mem.mpr ⟨⟨p3, fun c hc => ho c (p4 c hc)⟩, p2⟩
      rw [e] at this
      cases this
theorem ne_opt (x : Option (List Nat)) : opSem .ne [.imm (optS x), .imm (optS x)] = some (.imm (.bl false)) := by
  cases x with
  | none => rfl
  | some w =>
    show opSem .ne [.imm (.str w), .imm (.str w)] = _
    rw [so_neS] <;> simp
theorem peqs_strs : ∀ ws : List (List Nat), peqs (ws.map P.str) (ws.map P.str) = true
  | [] => by simp [peqs]
  | w :: ws => by simp [peqs, peq, peqs_strs ws]
theorem ne_strs (ws : List (List Nat)) : opSem .ne [.lst (ws.map P.str), .lst (ws.map P.str)] = some (.imm (.bl false)) := by
  simp only [opSem, cmpEq, isDic, rd]
  rw [if_pos]
  · simp only [peq, peqs_strs, Option.bind_some]; rfl
  · refine ⟨trivial, trivial, ?_⟩
    have : depths (ws.map P.str) ≤ 0 := depths_le fun p hp => by
      obtain ⟨w, _, rfl⟩ := List.mem_map.mp hp
      simp [depth]
    simp only [depth]
    omega
theorem pick3 {d : Nat} (h : d < 3) : ∃ A, atP [P.str [97], .str [97, 98], .str [97, 98, 99]] (d : Int) = some (.str A) ∧ Abc A ∧ 0 < A.length ∧ A.length ≤ 3 := by
  have : d = 0 ∨ d = 1 ∨ d = 2 := by omega
  rcases this with rfl | rfl | rfl
  · exact ⟨[97], at_nat (i := 0) (by simp), fun c hc => by simp at hc; exact .inl hc, by simp, by simp⟩
  · exact ⟨[97, 98], at_nat (i := 1) (by simp), fun c hc => by simp at hc; omega, by simp, by simp⟩
  · exact ⟨[97, 98, 99], at_nat (i := 2) (by simp), fun c hc => by simp at hc; omega, by simp, by simp⟩
theorem isT_pap (p : Pap) : ∃ ps, papP p = .tup ps ∧ ∃ t, atP ps 0 = some (.str t) ∧ decide (t = [116, 117, 114, 110, 101, 100]) = p.isT ∧ ∀ v, p = .turned v → atP ps 1 = some (.str v) := by
  cases p with
  | parted i j => exact ⟨_, rfl, Pa, at_nat (i := 0) (by simp), (show decide (Pa = [116, 117, 114, 110, 101, 100]) = false by decide), fun v h => nomatch h⟩
  | turned w => exact ⟨_, rfl, Tu, at_nat (i := 0) (by simp), (show decide (Tu = [116, 117, 114, 110, 101, 100]) = true by decide), fun v h => by cases h; exact at_nat (i := 1) (by simp)⟩
theorem al_pap {p : Pap} : AL 1 (papP p) := by
  cases p <;> refine ⟨by simp, fun q hq => ?_⟩ <;> simp only [List.mem_cons, List.not_mem_nil, or_false] at hq
  · rcases hq with rfl | rfl | rfl <;> trivial
  · rcases hq with rfl | rfl <;> trivial
theorem sm_pap {p : Pap} {n : Nat} (hn : 8 ≤ n) (h : ∀ v, p = .turned v → v.length ≤ n) : Sm n 1 (papP p) := by
  cases p with
  | parted i j =>
    refine sm_tup (by simp; omega) fun q hq => ?_
    simp only [List.mem_cons, List.not_mem_nil, or_false] at hq
    rcases hq with rfl | rfl | rfl
    · exact sm_str (by simp [Pa]; omega)
    · exact sm_int
    · exact sm_int
  | turned w =>
    refine sm_tup (by simp; omega) fun q hq => ?_
    simp only [List.mem_cons, List.not_mem_nil, or_false] at hq
    rcases hq with rfl | rfl
    · exact sm_str (by simp [Tu]; omega)
    · exact sm_str (h w rfl)
theorem noPer_any {w : List Nat} (h : noPer w = true) : ((List.range (w.length - 1)).map fun k => decide (w = times (w.take (1 + k)) (w.length / (1 + k)))).any id = false := by
  rw [List.any_eq_false]
  intro b hb
  obtain ⟨k, hk, rfl⟩ := List.mem_map.mp hb
  have hk := List.mem_range.mp hk
  unfold noPer at h
  have := allR_of h (1 + k) (by omega)
  rw [beq_is, decide_eq_false (by omega), cond_false, eqb_is] at this
  simpa using this
end Sw.k45
namespace Sw.k45
theorem law_true (ns : List Int) (hns : ns.length ≤ 63) : ∃ rs, callF prog G 200 29 [.imm (.lst (ns.map P.int))] = some (.imm (.bl true), rs) := by
  have key : ∃ r, callF prog G (199 + 1) 29 [.imm (.lst (ns.map P.int))] = some r ∧ ∃ rs, r = (.imm (.bl true), rs) := by
    refine wp_all fun R hR => call_wp (fn := f_law) rfl rfl ?_
    simp only [f_law, b_law]
    obtain ⟨c1, e1, w1⟩ := c_start 198 ns hns
    have e1 : callF prog G 199 13 [.imm (.lst (ns.map P.int))] = some (.lst c1, [.imm (.lst (ns.map P.int))]) := e1
    generalize hS : D.imm (P.lst (ns.map P.int)) = S at *
    refine wp_stepX (x := some (.nx, [some S, some (.lst c1), none, none, none, none, none, none, none, none, none, none, none, none, none, none, none, none, none])) ?_ (wpx_nx ?_)
    · subst hS
      simp -implicitDefEqProofs [e1]
    obtain ⟨c2, d2, e2, w2, h2⟩ := c_take 197 c1 3 w1 (by omega) (by omega)
    have e2 : callF prog G 199 15 [.lst c1, .imm (.int 3)] = some (.imm (.int d2), [.lst c2, .imm (.int 3)]) := e2
    obtain ⟨A, hA1, hA, hA0, hA3⟩ := pick3 h2
    have hAl : A.length ≤ line := le_lineN (by omega)
    have hlA := so_lenS hAl
    (refine wp_stepX (by conv => lhs; simp -implicitDefEqProofs [e2, hA1]) ?_; first | refine wpx_nx ?_ | refine wpx_rt ?_ | skip)
    obtain ⟨c3, d3, e3, w3, h3⟩ := c_take 197 c2 A.length w2 hA0 (by omega)
    have e3 : callF prog G 199 15 [.lst c2, .imm (.int A.length)] = some (.imm (.int d3), [.lst c3, .imm (.int A.length)]) := e3
    obtain ⟨c4, w4', e4, w4, hw4, hwA⟩ := c_word 196 c3 A 5 w3 hA0 (by omega) (by omega)
    have e4 : callF prog G 199 19 [.lst c3, .imm (.str A), .imm (.int 5)] = some (.imm (.str w4'), [.lst c4, .imm (.str A), .imm (.int 5)]) := e4
    have i3 : opSem .idx [.imm (.str A), .imm (.int (d3 : Int))] = some (.imm (.str [A[d3]])) := by
      rw [so_idxS hAl, at_nat h3, List.getElem?_eq_getElem h3] <;> rfl
    have a4 : opSem .add [.imm (.str [A[d3]]), .imm (.str w4')] = some (.imm (.str (A[d3] :: w4'))) := so_adds (le_lineN (by simp; omega))
    have hc3 : ∀ c ∈ A[d3] :: w4', c ∈ A := fun c hc => by
      rcases List.mem_cons.mp hc with rfl | hc
      · exact List.getElem_mem h3
      · exact hwA c hc
    have hl3 : 1 ≤ (A[d3] :: w4').length ∧ (A[d3] :: w4').length ≤ 6 := by simp; omega
    generalize A[d3] :: w4' = u at *
    generalize A[d3] = q3 at *
    (refine wp_stepX (by conv => lhs; simp -implicitDefEqProofs [hlA, e3, i3, e4, a4]) ?_; first | refine wpx_nx ?_ | refine wpx_rt ?_ | skip)
    clear e1 e2 e3 e4 w1 w2 w3 hw4 hwA
    obtain ⟨c5, d5, e5, w5, h5⟩ := c_take 197 c4 3 w4 (by omega) (by omega)
    have e5 : callF prog G 199 15 [.lst c4, .imm (.int 3)] = some (.imm (.int d5), [.lst c5, .imm (.int 3)]) := e5
    refine wp_seq (fun r => ∃ w : List Nat, (∀ c ∈ w, c ∈ A) ∧ 1 ≤ w.length ∧ w.length ≤ 6 ∧ r = (.nx, [some S, some (.lst c5), some (.imm (.str A)), some (.imm (.str w)), none, none, none, none, none, none, none, none, none, none, none, none, none, none, none])) (fun R hR => ?_) fun r hr => ?_
    · have hlu := so_lenS (s := u) (le_lineN (by omega))
      by_cases h0 : d5 = 0
      · subst h0
        by_cases h4 : u.length < 4
        · have hm := so_mulW (s := u) (n := 2) (le_lineN (by omega)) (by omega)
          have hm : opSem .mul [.imm (.str u), .imm (.int 2)] = some (.imm (.str (List.replicate 2 u).flatten)) := hm
          have hR := hR _ ⟨(List.replicate 2 u).flatten, fun c hc => by
            obtain ⟨x, hx, hc⟩ := List.mem_flatten.mp hc
            rw [List.eq_of_mem_replicate hx] at hc
            exact hc3 c hc, by simp; omega, by simp; omega, rfl⟩
          have h4 : ((u.length : Int) < 4) = True := eq_true (by omega)
          generalize (List.replicate 2 u).flatten = z at *
          simp -implicitDefEqProofs [e5, hlu, h4, hm]
          exact hR
        · have h4 : ((u.length : Int) < 4) = False := eq_false (by omega)
          simp -implicitDefEqProofs [e5, hlu, h4]
          exact hR _ ⟨u, hc3, hl3.1, hl3.2, rfl⟩
      · have h0 : ((d5 : Int) = 0) = False := eq_false (by omega)
        generalize (d5 : Int) = dd at *
        simp -implicitDefEqProofs [e5, h0]
        exact hR _ ⟨u, hc3, hl3.1, hl3.2, rfl⟩
    obtain ⟨w, hwA, hw1, hw6, rfl⟩ := hr
    clear hc3 hl3 a4 i3
    have hwl : w.length ≤ line := le_lineN (by omega)
    have hwn : w ≠ [] := List.length_pos_iff.mp hw1
    have t1 : callF prog G 199 23 [.imm (.str w)] = some (.imm (tW w), [.imm (.str w)]) := c_lturn 197 w (by omega)
    have t2 : callF prog G 199 2 [.imm (.str w)] = some (.imm (tW w), [.imm (.str w)]) := c_turn 197 w (by omega)
    have htW : tW w = .tup [.str (turn w).1, .int ((turn w).2 : Int)] := rfl
    have tl := turn_len w
    have gT : GR (turn w).1 := gr_all (by omega) (by omega) fun c hc => hA c (hwA c (turn_mem hwn hc))
    have aT : Abc (turn w).1 := fun c hc => hA c (hwA c (turn_mem hwn hc))
    have t3 : callF prog G 199 6 [.imm (.str (turn w).1), .imm (.int ((turn w).2 : Int))] = some (.imm (optS (readP (turn w).1 (turn w).2)), [.imm (.str (turn w).1), .imm (.int ((turn w).2 : Int))]) := c_read 196 (turn w).1 gT (turn w).2
    rw [(okW_facts hw1 hw6 (fun c hc => hA c (hwA c hc))).1] at t3
    have t3 : callF prog G 199 6 [.imm (.str (turn w).1), .imm (.int ((turn w).2 : Int))] = some (.imm (.str w), [.imm (.str (turn w).1), .imm (.int ((turn w).2 : Int))]) := t3
    have t4 := c_alike 1 197 (.tup [.str (turn w).1, .int ((turn w).2 : Int)]) ⟨by simp, fun q hq => by
      simp only [List.mem_cons, List.not_mem_nil, or_false] at hq
      rcases hq with rfl | rfl <;> trivial⟩
    have t4 : callF prog G 199 17 [.imm (.tup [.str (turn w).1, .int ((turn w).2 : Int)]), .imm (.tup [.str (turn w).1, .int ((turn w).2 : Int)])] = some (.imm (.bl true), [.imm (.tup [.str (turn w).1, .int ((turn w).2 : Int)]), .imm (.tup [.str (turn w).1, .int ((turn w).2 : Int)])]) := t4
    rw [htW] at t1 t2
    generalize (turn w).1 = row at *
    generalize (turn w).2 = kk at *
    (refine wp_stepX (by conv => lhs; simp -implicitDefEqProofs [t1]) ?_; first | refine wpx_nx ?_ | refine wpx_rt ?_ | skip)
    (refine wp_stepX (by conv => lhs; simp -implicitDefEqProofs [t2, t4]) ?_; first | refine wpx_nx ?_ | refine wpx_rt ?_ | skip)
    (refine wp_stepX (by conv => lhs; simp -implicitDefEqProofs [t3]) ?_; first | refine wpx_nx ?_ | refine wpx_rt ?_ | skip)
    (refine wp_stepX (by conv => lhs; simp -implicitDefEqProofs []) ?_; first | refine wpx_nx ?_ | refine wpx_rt ?_ | skip)
    clear t1 t2 t3 t4 htW
    -- the other row
    obtain ⟨c6, d6, e6, w6, h6⟩ := c_take 197 c5 6 w5 (by omega) (by omega)
    have e6 : callF prog G 199 15 [.lst c5, .imm (.int 6)] = some (.imm (.int d6), [.lst c6, .imm (.int 6)]) := e6
    refine wp_seq (fun r => ∃ (c7 : List P) (o : List Nat), WC c7 ∧ (∀ c ∈ o, c ∈ A) ∧ 1 ≤ o.length ∧ o.length ≤ 6 ∧ r = (.nx, [some S, some (.lst c7), some (.imm (.str A)), some (.imm (.str w)), some (.imm (.str w)), some (.imm (.str o)), none, none, none, none, some (.imm (.str row)), some (.imm (.int kk)), none, none, none, none, none, none, none])) (fun R hR => ?_) fun r hr => ?_
    · have hr1 := it_rng1 (show 1 + d6 ≤ 1000000 by omega)
      have hr1 : items .rng1 [.imm (.int (1 + (d6 : Int)))] = some ((List.range (1 + d6)).map fun k : Nat => P.int (k : Int)) := by
        have : ((1 + d6 : Nat) : Int) = 1 + (d6 : Int) := by omega
        rw [← this]
        exact hr1
      simp -implicitDefEqProofs [rcvOk, e6, hr1]
      refine wp_comp (fun i acc e => ∃ (c7 : List P) (o : List Nat), WC c7 ∧ (∀ c ∈ o, c ∈ A) ∧ o.length = i ∧ acc = (o.map fun c => [c]).map P.str ∧ e = [some S, some (.lst c7), some (.imm (.str A)), some (.imm (.str w)), some (.imm (.str w)), none, none, none, none, none, some (.imm (.str row)), some (.imm (.int kk)), none, none, none, none, none, none, none]) ⟨c6, [], w6, fun c h => (nomatch h), rfl, rfl, rfl⟩ (fun i p acc e hp hi => ?_) (fun acc e hi => ?_)
      · obtain ⟨c7, o, w7, hoA, hol, rfl, rfl⟩ := hi
        obtain ⟨hin, rfl⟩ := rng_get hp
        obtain ⟨c8, d8, e8, w8, h8⟩ := c_take 197 c7 A.length w7 hA0 (by omega)
        have e8 : callF prog G 199 15 [.lst c7, .imm (.int A.length)] = some (.imm (.int d8), [.lst c8, .imm (.int A.length)]) := e8
        have i8 : opSem .idx [.imm (.str A), .imm (.int (d8 : Int))] = some (.imm (.str [A[d8]])) := by
          rw [so_idxS hAl, at_nat h8, List.getElem?_eq_getElem h8] <;> rfl
        have hlen : ((o.map fun c => [c]).map P.str).length < line := lt_lineN (by simp; omega)
        simp only [List.length_map] at hlen
        simp -implicitDefEqProofs [-List.map_map, stepCc, hlA, e8, i8, hlen]
        refine ⟨c8, w8, o ++ [A[d8]], fun c h => ?_, by simp [hol], by simp, rfl⟩
        rcases List.mem_append.mp h with h | h
        · exact hoA c h
        · rw [List.mem_singleton.mp h]; exact List.getElem_mem h8
      · obtain ⟨c7, o, w7, hoA, hol, rfl, rfl⟩ := hi
        rw [List.length_map, List.length_range] at hol
        have hj := so_joinC (w := o) (le_lineN (by omega))
        have hR := hR _ ⟨c7, o, w7, hoA, by omega, by omega, rfl⟩
        generalize (o.map fun c => [c]).map P.str = z at *
        simp -implicitDefEqProofs [rcvOk, hj]
        exact hR
    obtain ⟨c7, o, w7, hoA, ho1, ho6, rfl⟩ := hr
    clear e5 e6 w4 w5 w6
    have hlo := so_lenS (s := o) (le_lineN (by omega))
    have hao : Abc o := fun c hc => hA c (hoA c hc)
    have gO := gr_all ho1 ho6 hao
    have hpw : A.length ^ o.length ≤ 729 := Nat.le_trans (Nat.pow_le_pow_left hA3 _) (Nat.le_trans (Nat.pow_le_pow_right (by decide) ho6) (by decide))
    have eW := c_words 198 A o.length hA0 (by omega) (by omega) (by omega)
    have eW : callF prog G 199 18 [.imm (.str A), .imm (.int (o.length : Int))] = some (wordsD o.length ((allW A o.length).map P.str), [.imm (.str A), .imm (.int (o.length : Int))]) := eW
    have hwD : wordsD o.length ((allW A o.length).map P.str) = .imm (.lst ((allW A o.length).map P.str)) := by unfold wordsD; rw [if_neg (by omega)]
    rw [hwD] at eW
    have hallL : (allW A o.length).length ≤ 729 := by rw [allW_len]; exact hpw
    have hsL : (sizesL A o).length ≤ 729 := Nat.le_trans (List.length_filter_le _ _) hallL
    have hcmp : ∀ one : List Nat, opSem .idx [.imm (tW one), .imm (.int 0)] = some (.imm (.str (turn one).1)) ∧ opSem .idx [.imm (tW one), .imm (.int 1)] = some (.imm (.int ((turn one).2 : Int))) := fun one => by
      unfold tW
      rw [so_idxT, so_idxT, show (0 : Int) = ((0 : Nat) : Int) from rfl, show (1 : Int) = ((1 : Nat) : Int) from rfl, at_nat (by simp), at_nat (by simp)]
      exact ⟨rfl, rfl⟩
    refine wp_stepX (x := some (.nx, [some S, some (.lst c7), some (.imm (.str A)), some (.imm (.str w)), some (.imm (.str w)), some (.imm (.str o)), some (.lst ((sizesL A o).map P.str)), none, none, none, some (.imm (.str row)), some (.imm (.int kk)), none, none, none, none, none, none, none])) (wp_is ?_) (wpx_nx ?_)
    · have h7 : ((o.length : Int) < 7) = True := eq_true (by omega)
      simp -implicitDefEqProofs [hlo, h7, eW]
      refine wp_eq (comp_map P.str (fun one => P.str one) (fun one => decide ((turn one).1 = o)) (le_lineN (by omega)) fun one hone acc hacc => ?_) ?_
      · have ho := (allW_mem.mp hone).1
        have t1 : callF prog G 199 23 [.imm (.str one)] = some (.imm (tW one), [.imm (.str one)]) := c_lturn 197 one (by omega)
        obtain ⟨z1, z2⟩ := hcmp one
        by_cases hq : (turn one).1 = o
        · rw [hq] at z1
          simp -implicitDefEqProofs [stepCc, t1, z1, hacc, hq]
        · have hq2 : ((turn one).1 = o) = False := eq_false hq
          generalize (turn one).1 = t at *
          generalize tW one = tw at *
          simp -implicitDefEqProofs [stepCc, t1, z1, hacc, hq2]
      · unfold sizesL
        generalize ((allW A o.length).filter fun one => decide ((turn one).1 = o)) = L
        simp -implicitDefEqProofs
    obtain ⟨c8, d8, e8, w8, h8⟩ := c_take 197 c7 o.length w7 ho1 (by omega)
    have e8 : callF prog G 199 15 [.lst c7, .imm (.int o.length)] = some (.imm (.int d8), [.lst c8, .imm (.int o.length)]) := e8
    (refine wp_stepX (by conv => lhs; simp -implicitDefEqProofs [hlo, e8]) ?_; first | refine wpx_nx ?_ | refine wpx_rt ?_ | skip)
    have hfL : (fitsL A o d8).length ≤ 729 := Nat.le_trans (List.length_filter_le _ _) hsL
    refine wp_stepX (x := some (.nx, [some S, some (.lst c8), some (.imm (.str A)), some (.imm (.str w)), some (.imm (.str w)), some (.imm (.str o)), some (.lst ((sizesL A o).map P.str)), some (.imm (.int (d8 : Int))), some (.lst ((fitsL A o d8).map P.str)), none, some (.imm (.str row)), some (.imm (.int kk)), none, none, none, none, none, none, none])) (wp_is ?_) (wpx_nx ?_)
    · simp -implicitDefEqProofs
      refine wp_eq (comp_map P.str (fun one => P.str one) (fun one => decide ((turn one).2 = d8)) (le_lineN (by omega)) fun one hone acc hacc => ?_) ?_
      · have ho := (sizes_mem.mp hone).1.1
        have t1 : callF prog G 199 23 [.imm (.str one)] = some (.imm (tW one), [.imm (.str one)]) := c_lturn 197 one (by omega)
        obtain ⟨z1, z2⟩ := hcmp one
        by_cases hq : (turn one).2 = d8
        · rw [hq] at z2
          simp -implicitDefEqProofs [stepCc, t1, z2, hacc, hq]
        · have hq2 : (((turn one).2 : Int) = (d8 : Int)) = False := eq_false (by omega)
          have hq3 : ((turn one).2 = d8) = False := eq_false hq
          generalize (sizesL A o).map P.str = X at *
          generalize tW one = tw at *
          simp -implicitDefEqProofs [stepCc, t1, z2, hacc, hq2, hq3]
      · unfold fitsL
        generalize ((sizesL A o).filter fun one => decide ((turn one).2 = d8)) = L
        generalize (sizesL A o).map P.str = X
        simp -implicitDefEqProofs
    have hfi := fits_is hA hoA ho1 ho6 h8
    have e9 : callF prog G 199 6 [.imm (.str o), .imm (.int (d8 : Int))] = some (.imm (optS (readP o d8)), [.imm (.str o), .imm (.int (d8 : Int))]) := c_read 196 o gO d8
    rw [← hfi] at e9
    have hisT := isT_sizes hA hoA ho1 ho6
    refine wp_stepX (x := some (.nx, [some S, some (.lst c8), some (.imm (.str A)), some (.imm (.str w)), some (.imm (.str w)), some (.imm (.str o)), some (.lst ((sizesL A o).map P.str)), some (.imm (.int (d8 : Int))), some (.lst ((fitsL A o d8).map P.str)), none, some (.imm (.str row)), some (.imm (.int kk)), none, none, none, none, none, none, none])) ?_ (wpx_nx ?_)
    · have hno := ne_opt (fitsL A o d8).head?
      generalize (sizesL A o).map P.str = X at *
      cases hf : fitsL A o d8 with
      | nil =>
        rw [hf] at e9 hno
        have e9 : callF prog G 199 6 [.imm (.str o), .imm (.int (d8 : Int))] = some (.imm .non, [.imm (.str o), .imm (.int (d8 : Int))]) := e9
        have hno : opSem .ne [.imm .non, .imm .non] = some (.imm (.bl false)) := hno
        simp -implicitDefEqProofs [e9, hno]
      | cons f fs =>
        rw [hf] at e9 hno
        have e9 : callF prog G 199 6 [.imm (.str o), .imm (.int (d8 : Int))] = some (.imm (.str f), [.imm (.str o), .imm (.int (d8 : Int))]) := e9
        have a0 : atP (P.str f :: fs.map P.str) 0 = some (.str f) := at_nat (i := 0) (by simp)
        simp -implicitDefEqProofs [e9, a0]
    -- the two lines
    generalize hFX : (fitsL A o d8).map P.str = FX at *
    have hXl : ((sizesL A o).map P.str).length = (sizesL A o).length := List.length_map ..
    have hlX := so_lenL (ps := (sizesL A o).map P.str)
    rw [hXl] at hlX
    generalize hSX : (sizesL A o).map P.str = SX at *
    generalize (sizesL A o).length = sl at *
    clear hcmp hfi e9 hfL hsL hallL eW hwD hpw e8 w7
    refine wp_fors0 (fun i e => ∃ (c9 : List P) (x9 x12 x13 x14 x15 x16 x17 x18 : Option D), WC c9 ∧ e = [some S, some (.lst c9), some (.imm (.str A)), some (.imm (.str w)), some (.imm (.str w)), some (.imm (.str o)), some (.lst SX), some (.imm (.int (d8 : Int))), some (.lst FX), x9, some (.imm (.str row)), some (.imm (.int kk)), x12, x13, x14, x15, x16, x17, x18]) (ps := [row, o].map P.str) (os := [.tmp (.lst ([row, o].map P.str))]) (by simp -implicitDefEqProofs [itm]) (by simp) ⟨c8, none, none, none, none, none, none, none, none, w8, rfl⟩ (fun i p e hp hi => ?_) (fun e hi => ?_)
    · obtain ⟨c9, x9, x12, x13, x14, x15, x16, x17, x18, w9, rfl⟩ := hi
      obtain ⟨ln, hln, rfl⟩ := map_get hp
      have hln := List.mem_of_getElem? hln
      have gL : GR ln ∧ Abc ln ∧ (ln = o → (paperP ln).isT = decide (0 < sl)) := by
        simp only [List.mem_cons, List.not_mem_nil, or_false] at hln
        rcases hln with rfl | rfl
        · exact ⟨gT, aT, fun q => by rw [q]; exact hisT⟩
        · exact ⟨gO, hao, fun _ => hisT⟩
      obtain ⟨gL, aL, hLT⟩ := gL
      clear hp hln hisT gT gO aT hao
      have hl6 := gL.n6
      have p1 : callF prog G 199 8 [.imm (.str ln)] = some (.imm (papP (paperP ln)), [.imm (.str ln)]) := c_paper 195 ln gL
      have p2 : callF prog G 199 27 [.imm (.str ln)] = some (.imm (papP (paperL ln)), [.imm (.str ln)]) := c_lpaper 196 ln gL
      rw [← gL.pp] at p2
      have p3 : callF prog G 199 17 [.imm (papP (paperP ln)), .imm (papP (paperP ln))] = some (.imm (.bl true), [.imm (papP (paperP ln)), .imm (papP (paperP ln))]) := c_alike 1 197 _ al_pap
      have p4 : Sm 8 1 (papP (paperP ln)) := sm_pap (by omega) fun v hv => by
        rw [gL.pp] at hv
        have := (gL.pt v hv).2.2.1
        omega
      have p5 : ∀ v, paperP ln = .turned v → (turn v).1 = ln ∧ v.length = ln.length := fun v hv => by
        rw [gL.pp] at hv
        exact ⟨(gL.pt v hv).2.1, (gL.pt v hv).2.2.1⟩
      obtain ⟨ps, hps, t, ht0, htT, ht1⟩ := isT_pap (paperP ln)
      rw [hps] at p1 p2 p3 p4
      refine wp_bnd (by conv => lhs; simp -implicitDefEqProofs []) ?_
      (refine wp_stepX (by conv => lhs; simp -implicitDefEqProofs [p1]) ?_; first | refine wpx_nx ?_ | refine wpx_rt ?_ | skip)
      refine wp_stepX (x := some (.nx, [some S, some (.lst c9), some (.imm (.str A)), some (.imm (.str w)), some (.imm (.str w)), some (.imm (.str o)), some (.lst SX), some (.imm (.int (d8 : Int))), some (.lst FX), some (.imm (.str ln)), some (.imm (.str row)), some (.imm (.int kk)), some (.imm (.tup ps)), x13, x14, x15, x16, x17, x18])) ?_ (wpx_nx ?_)
      · by_cases hq : ln = o
        · have hLT := hLT hq
          rw [← htT] at hLT
          have hne := so_neB (decide (t = [116, 117, 114, 110, 101, 100])) (decide (0 < sl))
          have hgt : (decide (0 < (sl : Int))) = decide (0 < sl) := by
            by_cases z : 0 < sl
            · rw [decide_eq_true z, decide_eq_true (by omega)]
            · rw [decide_eq_false z, decide_eq_false (by omega)]
          have hgt2 : opSem .gt [.imm (.int (sl : Int)), .imm (.int 0)] = some (.imm (.bl (decide (0 < sl)))) := by rw [so_gt, hgt]
          have hbb : (decide (t = [116, 117, 114, 110, 101, 100]) != decide (0 < sl)) = false := by rw [hLT]; simp
          rw [hbb] at hne
          have heq : opSem .eq [.imm (.str t), .imm (.str [116, 117, 114, 110, 101, 100])] = some (.imm (.bl (decide (t = [116, 117, 114, 110, 101, 100])))) := so_eqS
          have hq2 : (ln = o) = True := eq_true hq
          clear hLT htT hbb hgt
          generalize decide (t = [116, 117, 114, 110, 101, 100]) = b1 at *
          generalize decide (0 < sl) = b2 at *
          simp -implicitDefEqProofs [-so_gt, -so_eqS, p2, p3, hq2, ht0, heq, hlX, hgt2, hne, so_eqS (s := ln) (t := o)]
        · have hq2 : (ln = o) = False := eq_false hq
          simp -implicitDefEqProofs [p2, p3, hq2]
      refine wp_stepX (x := some (.nx, [some S, some (.lst c9), some (.imm (.str A)), some (.imm (.str w)), some (.imm (.str w)), some (.imm (.str o)), some (.lst SX), some (.imm (.int (d8 : Int))), some (.lst FX), some (.imm (.str ln)), some (.imm (.str row)), some (.imm (.int kk)), some (.imm (.tup ps)), x13, x14, x15, x16, x17, x18])) ?_ (wpx_nx ?_)
      · cases hq : paperP ln with
        | parted i j =>
          rw [hq] at htT
          have : (t = [116, 117, 114, 110, 101, 100]) = False := eq_false (of_decide_eq_false htT)
          simp -implicitDefEqProofs [ht0, this]
        | turned v =>
          rw [hq] at htT
          obtain ⟨z1, z2⟩ := p5 v hq
          have a1 := ht1 v hq
          have t1 : callF prog G 199 23 [.imm (.str v)] = some (.imm (tW v), [.imm (.str v)]) := c_lturn 197 v (by omega)
          have a2 : opSem .idx [.imm (tW v), .imm (.int 0)] = some (.imm (.str (turn v).1)) := by
            unfold tW
            rw [so_idxT, show (0 : Int) = ((0 : Nat) : Int) from rfl, at_nat (by simp)] <;> rfl
          rw [z1] at a2
          generalize tW v = tw at *
          have : (t = [116, 117, 114, 110, 101, 100]) = True := eq_true (of_decide_eq_true htT)
          simp -implicitDefEqProofs [ht0, this, a1, t1, a2]
      clear p1 p2 p3 p5 ht0 ht1 htT hLT hps
      refine wp_fors0 (fun i e => ∃ (c9 : List P) (x13 x16 x17 : Option D), WC c9 ∧ e = [some S, some (.lst c9), some (.imm (.str A)), some (.imm (.str w)), some (.imm (.str w)), some (.imm (.str o)), some (.lst SX), some (.imm (.int (d8 : Int))), some (.lst FX), some (.imm (.str ln)), some (.imm (.str row)), some (.imm (.int kk)), some (.imm (.tup ps)), x13, x14, x15, x16, x17, x18]) (ps := (List.range 5).map fun k : Nat => P.int (k : Int)) (os := [.tmp (.imm (.int 5))]) (by simp -implicitDefEqProofs [itm, it_rng1 (n := 5) (by omega)]; rfl) (by simp) ⟨c9, x13, x16, x17, w9, rfl⟩ (fun i p e hp hi => ?_) (fun e hi => ?_)
      · obtain ⟨c9, x13, x16, x17, w9, rfl⟩ := hi
        obtain ⟨hin, rfl⟩ := rng_get hp
        obtain ⟨c10, r, e10, w10, hr⟩ := c_bent 149 8 1 i c9 (.tup ps) w9 (by omega) (by omega) (by omega) p4
        have e10 : callF prog G 199 21 [.lst c9, .imm (.tup ps), .imm (.int i)] = some (.imm r, [.lst c10, .imm (.tup ps), .imm (.int i)]) := e10
        have e11 : callF prog G 199 10 [.imm (.str ln), .imm r] = some (.imm (.bl (ansV ln r)), [.imm (.str ln), .imm r]) := c_judge 195 (8 + 2) (1 + 4) ln gL aL r (by omega) hr
        have e12 : callF prog G 199 28 [.imm (.str ln), .imm r] = some (.imm (.bl (ansV ln r)), [.imm (.str ln), .imm r]) := c_ispaper 195 ln gL r
        have hne := so_neB (ansV ln r) (ansV ln r)
        have hbb : (ansV ln r != ansV ln r) = false := by simp
        rw [hbb] at hne
        have hty : isTy (.bl (ansV ln r)) .bool = true := rfl
        generalize ansV ln r = av at *
        refine wp_bnd (by conv => lhs; simp -implicitDefEqProofs []) ?_
        (refine wp_stepX (by conv => lhs; simp -implicitDefEqProofs [e10]) ?_; first | refine wpx_nx ?_ | refine wpx_rt ?_ | skip)
        (refine wp_stepX (by conv => lhs; simp -implicitDefEqProofs [e11]) ?_; first | refine wpx_nx ?_ | refine wpx_rt ?_ | skip)
        (refine wp_stepX (by conv => lhs; simp -implicitDefEqProofs [e12, hne, hty]) ?_; first | refine wpx_nx ?_ | refine wpx_rt ?_ | skip)
        exact wp_end ⟨rfl, c10, _, _, _, w10, rfl⟩
      · obtain ⟨c10, x13, x16, x17, w10, rfl⟩ := hi
        have b1 : callF prog G 199 11 [.imm (.str ln)] = some (tupS (neckP ln), [.imm (.str ln)]) := c_neck 195 ln gL
        have b2 := gL.nb
        have b3 := gL.ns
        have b4 := gL.nr
        have b5 := gL.nw
        have b6 := gL.nl
        have b7 := gL.n0
        (refine wp_stepX (by conv => lhs; simp -implicitDefEqProofs [b1]) ?_; first | refine wpx_nx ?_ | refine wpx_rt ?_ | skip)
        have b8 : callF prog G 199 12 [tupS (neckP ln)] = some (.imm (.str (rowOf (neckP ln))), [tupS (neckP ln)]) := c_rowof 197 (neckP ln) b7 (by omega) fun v hv => ⟨(b5 v hv).2.2.1, by have := (b5 v hv).2.2.2; omega⟩
        rw [b4] at b8
        have b9 := ne_strs (neckP ln)
        generalize neckP ln = B at *
        have hBl : B.length ≤ line := le_lineN (by omega)
        have b10 := so_lisT (ps := B.map P.str) (by rw [List.length_map]; exact hBl)
        have b11 : opSem .join [.imm (.str []), .imm (.tup (B.map P.str))] = some (.imm (.str B.flatten)) := by
          simp only [opSem, opJoin, elems, Option.bind_some, strs_all]
          rw [if_pos, joinL_nil]
          have : (B.map List.length).sum ≤ B.length * 6 := by
            have : ∀ C : List (List Nat), (∀ v ∈ C, v.length ≤ 6) → (C.map List.length).sum ≤ C.length * 6 := by
              intro C
              induction C with
              | nil => intro _; simp
              | cons v C ih =>
                intro h
                have := ih fun u hu => h u (List.mem_cons_of_mem _ hu)
                have := h v List.mem_cons_self
                simp only [List.map_cons, List.sum_cons, List.length_cons]
                omega
            exact this B fun v hv => Nat.le_trans (b5 v hv).2.2.2 hl6
          exact le_lineN (by simp; omega)
        have hfl : B.flatten.length ≤ 1000 := by
          have h1 := (isort_perm (lt := nlt) B.flatten).length_eq
          have h2 := (isort_perm (lt := nlt) ln).length_eq
          rw [b3] at h1
          omega
        have b12 := so_sortSt (w := B.flatten) (le_lineN (by omega))
        have b13 := so_sortSt (w := ln) (le_lineN (by omega))
        rw [b3] at b12
        have b14 := ne_strs ((isort nlt ln).map fun c => [c])
        rw [← chr_list] at b14
        refine wp_stepX (x := some (.nx, [some S, some (.lst c10), some (.imm (.str A)), some (.imm (.str w)), some (.imm (.str w)), some (.imm (.str o)), some (.lst SX), some (.imm (.int (d8 : Int))), some (.lst FX), some (.imm (.str ln)), some (.imm (.str row)), some (.imm (.int kk)), some (.imm (.tup ps)), x13, some (tupS B), keepImm (keepImm x15), x16, x17, keepImm x18])) (wp_is ?_) (wpx_nx ?_)
        · unfold tupS at *
          simp -implicitDefEqProofs
          refine wp_eq (comp_all P.str (fun v => pIS (v.length, v)) hBl fun v hv acc hacc => ?_) ?_
          · have hlv := so_lenS (s := v) (le_lineN (by have := (b5 v hv).2.2.2; omega))
            simp -implicitDefEqProofs [stepCc, hlv, hacc, pIS]
          · have hsz : B.map (fun v => pIS (v.length, v)) = (B.map fun v => (v.length, v)).map pIS := by rw [List.map_map] <;> rfl
            rw [hsz]
            have hs := so_sortIS (l := B.map fun v => (v.length, v)) (by rw [List.length_map]; exact hBl)
            have hbs : (isort lwlt (B.map fun v => (v.length, v))).map (fun q => P.str q.2) = B.map P.str := by
              have : (isort lwlt (B.map fun v => (v.length, v))).map (·.2) = B := b2
              have h2 := congrArg (List.map P.str) this
              rw [List.map_map] at h2
              exact h2
            have hsl : (isort lwlt (B.map fun v => (v.length, v))).length = B.length := by rw [(isort_perm _).length_eq, List.length_map]
            generalize (B.map fun v => (v.length, v)).map pIS = Y1 at *
            generalize isort lwlt (B.map fun v => (v.length, v)) = Y2 at *
            simp -implicitDefEqProofs [-List.map_map, hs]
            refine wp_eq (comp_all pIS (fun q => P.str q.2) (by omega) fun q hq acc hacc => ?_) ?_
            · simp -implicitDefEqProofs [stepCc, hacc, pIS]
            · rw [hbs]
              generalize B.map P.str = Y3 at *
              generalize ((isort nlt ln).map fun c => P.str [c]) = Y4 at *
              simp -implicitDefEqProofs [rcvOk, b8, b9, b10, b11, b12, b13, b14]
        · refine wp_fors0 (fun i e => ∃ (x15 x18 : Option D), e = [some S, some (.lst c10), some (.imm (.str A)), some (.imm (.str w)), some (.imm (.str w)), some (.imm (.str o)), some (.lst SX), some (.imm (.int (d8 : Int))), some (.lst FX), some (.imm (.str ln)), some (.imm (.str row)), some (.imm (.int kk)), some (.imm (.tup ps)), x13, some (tupS B), x15, x16, x17, x18]) (ps := B.map P.str) (os := [.tmp (tupS B)]) (by unfold tupS; simp -implicitDefEqProofs [itm]) (by simp) ⟨_, _, rfl⟩ (fun i p e hp hi => ?_) (fun e hi => ?_)
          · obtain ⟨x15, x18, rfl⟩ := hi
            obtain ⟨v, hv, rfl⟩ := map_get hp
            obtain ⟨v1, v2, v3, v4⟩ := b5 v (List.mem_of_getElem? hv)
            have l1 : callF prog G 199 26 [.imm (.str v)] = some (.imm (.str (leastL v)), [.imm (.str v)]) := c_lleast 197 v v3 (by omega)
            rw [← v1] at l1
            have hvl : v.length ≤ line := le_lineN (by omega)
            have hlv := so_lenS hvl
            have hv0 : 0 < v.length := List.length_pos_iff.mpr v3
            have hit : items .rng2 [.imm (.int 1), .imm (.int (v.length : Int))] = some ((List.range (v.length - 1)).map fun k : Nat => P.int (((1 + k : Nat)) : Int)) := by
              rw [it_rng2 (by omega)]
              have : ((v.length : Int) - 1).toNat = v.length - 1 := by omega
              rw [this]
              refine congrArg some (List.map_congr_left fun k hk => congrArg P.int ?_)
              omega
            have hany := so_any ((List.range (v.length - 1)).map fun k => decide (v = times (v.take (1 + k)) (v.length / (1 + k))))
            rw [noPer_any v2] at hany
            refine wp_bnd (by conv => lhs; simp -implicitDefEqProofs []) ?_
            refine wp_stepX (x := some (.nx, [some S, some (.lst c10), some (.imm (.str A)), some (.imm (.str w)), some (.imm (.str w)), some (.imm (.str o)), some (.lst SX), some (.imm (.int (d8 : Int))), some (.lst FX), some (.imm (.str ln)), some (.imm (.str row)), some (.imm (.int kk)), some (.imm (.tup ps)), x13, some (tupS B), some (.imm (.str v)), x16, x17, keepImm x18])) (wp_is ?_) (wpx_nx ?_)
            · unfold tupS
              generalize B.map P.str = Y3 at *
              simp -implicitDefEqProofs [l1, hlv, hit]
              refine wp_eq (comp_all (fun k : Nat => P.int (((1 + k : Nat)) : Int)) (fun k => P.bl (decide (v = times (v.take (1 + k)) (v.length / (1 + k))))) (by rw [List.length_range]; omega) fun k hk acc hacc => ?_) ?_
              · have hk := List.mem_range.mp hk
                have f1 : slcSem (.imm (.str v)) none (some ((1 + k : Nat) : Int)) = some (.imm (.str (v.take (1 + k)))) := by rw [so_slcS hvl, cut_0n]
                have f2 := so_fdivN (a := v.length) (b := 1 + k) (by omega) (by omega)
                have f3 : v.length / (1 + k) ≤ v.length := Nat.div_le_self _ _
                have f4 := so_mulW (s := v.take (1 + k)) (n := v.length / (1 + k)) (le_lineN (Nat.le_trans (Nat.mul_le_mul (show (v.take (1 + k)).length ≤ 6 by rw [List.length_take]; omega) (show v.length / (1 + k) ≤ 6 by omega)) (by decide))) (by omega)
                rw [← times_is] at f4
                generalize times (v.take (1 + k)) (v.length / (1 + k)) = y1 at *
                generalize v.take (1 + k) = y2 at *
                generalize ((v.length / (1 + k) : Nat) : Int) = y3 at *
                generalize ((1 + k : Nat) : Int) = y4 at *
                simp -implicitDefEqProofs [stepCc, hlv, f1, f2, f4, hacc]
              · rw [List.map_map] at hany
                have hany : opSem .any [.lst ((List.range (v.length - 1)).map fun k => P.bl (decide (v = times (v.take (1 + k)) (v.length / (1 + k)))))] = some (.imm (.bl false)) := hany
                generalize ((List.range (v.length - 1)).map fun k => P.bl (decide (v = times (v.take (1 + k)) (v.length / (1 + k))))) = y1 at *
                simp -implicitDefEqProofs [hany]
            · exact wp_end ⟨rfl, _, _, rfl⟩
          · obtain ⟨x15, x18, rfl⟩ := hi
            exact wp_end ⟨rfl, c10, _, _, _, _, _, _, _, _, w10, rfl⟩
    · obtain ⟨c9, x9, x12, x13, x14, x15, x16, x17, x18, w9, rfl⟩ := hi
      subst hS
      simp -implicitDefEqProofs [asgTs, asgT]
      exact hR _ ⟨_, rfl⟩
  obtain ⟨r, e, rs, rfl⟩ := key
  exact ⟨rs, e⟩
end Sw.k45
theorem PySem.Challenge.cw_signworth_k45_rotations_and_necklaces_holds : PySem.Challenge.rw_signworth_k45_rotations_and_necklaces.Holds := by
  exact Sw.k45.holds_of Sw.k45.law_true
