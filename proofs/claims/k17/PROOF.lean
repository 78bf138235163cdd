import PyProof.Rows.All
import Wide.All
import OpenK.AllK
import Wide.FinOn
import HandS.ForMost
import HandS.Walk
import HandS.TupAny
import HandS.TupLen
import HandS.TupMul
import HandS.Conv
import HandS.Deep
import HandS.Wide
import HandS.WideBits
import HandS.WideMore
import HandS.IsInst
import HandS.Flow
import HandS.Zip
import HandS.Dict
import KE.KDictKeyed
import KE.KDictCopyH
import KE.KeyNested
import HandS.Style
import HandS.Iter
import PyProof.P3In
import KE.KRevSl
import HandS.Sort
import KE.GoesMore
import HandS.Exc
import HandS.EndBits
import HandS.SortInts
import HandS.SetFor
import HandS.Strs
import HandS.Small
import KE.KDictDisplayH
import KE.KDictLaws
import KE.KDictWalk
import KE.KDictList
import KE.SortData
import KE.SortKeyHeap
import HandS.SortKw
import PySem.Challenge.RW_onlylast_k17_whole_forgotten_exactly
set_option Elab.async false
set_option linter.all false
set_option maxRecDepth 100000
set_option maxHeartbeats 4000000
namespace U
set_option autoImplicit false
open PySem PySem.Spec PyProof.Rows L2

abbrev St := L2.St
/-! ### data -/
inductive D where
  | non
  | bl (b : Bool)
  | int (i : Int)
  | str (x : Str)
  | tup (ds : List D)
  | lst (ds : List D)
  | dic (ks vs : List D)
  | fn (x : Str)
  | exc (k : Str) (d : D)
  | scr (ns : List Int)

mutual
/-- nothing that can change within -/
def D.imm : D → Bool
  | .non => true
  | .bl _ => true
  | .int _ => true
  | .str _ => true
  | .fn _ => true
  | .tup ds => D.immL ds
  | .lst _ => false
  | .dic _ _ => false
  | .exc _ _ => false
  | .scr _ => true
def D.immL : List D → Bool
  | [] => true
  | d :: ds => D.imm d && D.immL ds
end

/-- slots: (own or not, the datum) -/
abbrev En := List (Option (Bool × D))
inductive O (α : Type) where
  | ok (a : α)
  | ex (k : Str) (d : D) (ρ : En)
  | bad
def O.bind {α β : Type} : O α → (α → O β) → O β
  | .ok a, f => f a
  | .ex k d ρ, _ => .ex k d ρ
  | .bad, _ => .bad
def O.sat {α : Type} (p : α → Prop) (q : Str → D → En → Prop) : O α → Prop
  | .ok a => p a
  | .ex k d ρ => q k d ρ
  | .bad => False
theorem O.sat_mono {α : Type} {p p' : α → Prop} {q q' : Str → D → En → Prop} {o : O α} (h : o.sat p q) (hp : ∀ a, p a → p' a) (hq : ∀ k d ρ, q k d ρ → q' k d ρ) : o.sat p' q' := by
  cases o with
  | ok a => exact hp a h
  | ex k d ρ => exact hq k d ρ h
  | bad => exact h
theorem O.sat_bind {α β : Type} {f : α → O β} {p : β → Prop} {q : Str → D → En → Prop} {o : O α} (h : (o.bind f).sat p q) : o.sat (fun a => (f a).sat p q) q := by
  cases o <;> exact h

theorem O.sat_then {α β : Type} {f : α → O β} {p : β → Prop} {q q' : Str → D → En → Prop} {p' : α → Prop} {o : O α} (h : (o.bind f).sat p q) (hp : ∀ a, (f a).sat p q → p' a) (hq : ∀ k d ρ, q k d ρ → q' k d ρ) : o.sat p' q' := by
  cases o with
  | ok a => exact hp a h
  | ex k d ρ => exact hq k d ρ h
  | bad => exact h.elim

/-! ### values that bear data -/
structure Cc where
  K : PySem.W.Frag
  G : Str → V → Prop
  XC : Str → Option Addr
  XF : Str → Str
  P : Program
  w : World

/-! ### dicts as objects: keys by value, or tuples -/
mutual
def D.nk : D → Option NestedKey
  | .non => some .none
  | .int i => some (.num i)
  | .str x => some (.text x)
  | .tup ds => (D.nkL ds).map .tup
  | _ => none
def D.nkL : List D → Option (List NestedKey)
  | [] => some []
  | d :: ds => match d.nk, D.nkL ds with
    | some k, some ks => some (k :: ks)
    | _, _ => none
end
def D.lf : D → Option L2.Key
  | .int i => some (.inl i)
  | .str x => some (.inr x)
  | _ => none
def DkO (P : Program) (w : World) (a : Addr) (kvs : List (L2.Key × V)) (ob : Obj) : HO := .ext fun h => h.get? a = some ob ∧ kvs.length ≤ sizeLine ∧ (a == sysModules) = false ∧ ∃ vs, KV kvs vs ∧ h.DictOf (mixKind P w) a vs
abbrev KW (kvs : List (NestedKey × Addr × V)) (xs : List (NestedKey × Addr × Value)) : Prop := Paired (fun p q => p.1 = q.1 ∧ p.2.1 = q.2.1 ∧ RelV p.2.2 q.2.2) kvs xs
def DtO (P : Program) (w : World) (a : Addr) (kvs : List (NestedKey × Addr × V)) (ob : Obj) : HO := .ext fun h => h.get? a = some ob ∧ kvs.length ≤ sizeLine ∧ (a == sysModules) = false ∧ (∀ p ∈ kvs, p.1.depth ≤ 8) ∧ ∃ xs, KW kvs xs ∧
  ∃ o es ep, h.get? a = some o ∧ o.ExactDict ∧ o.data = .dict es ep ∧ es.toList = xs.map (entryOfKey (nestedKind P w)) ∧ (xs.map (·.1)).Nodup
/-- what a slot may own -/
def Cl : HO → Prop
  | .lst _ => True
  | .ext _ => True
  | _ => False

/-- a list that nothing changes -/
def SqF (K : PySem.W.Frag) (H : Hp) (a : Addr) (xs : List V) : Prop :=
  (∃ o, H a = some (.frz o (.lst xs))) ∨ ∃ (o : Obj) (its : Array Value) (n : Nat), K.lookup a = some o ∧ o.cls = .type "list" ∧ o.dict = none ∧ o.data = .seq its n ∧ its.size ≤ sizeLine ∧ Vals xs its.toList
theorem SqF.sqL {K : PySem.W.Frag} {H : Hp} {a : Addr} {xs : List V} (h : SqF K H a xs) : SqL K H a xs := h.imp (fun ⟨o, h⟩ => .inr ⟨o, h⟩) id
theorem SqF.keep {K : PySem.W.Frag} {H H' : Hp} {a : Addr} {xs : List V} (k : ∀ a o u, H a = some (.frz o u) → H' a = some (.frz o u)) (h : SqF K H a xs) : SqF K H' a xs := h.imp (fun ⟨o, h⟩ => ⟨o, k _ _ _ h⟩) id
mutual
inductive Rep (c : Cc) (A : Addr → Prop) (H : Hp) : V → D → Prop
  | non : Rep c A H .non .non
  | bl (b : Bool) : Rep c A H (.bl b) (.bl b)
  | int (i : Int) : Rep c A H (.int i) (.int i)
  | str (x : Str) : Rep c A H (.str x) (.str x)
  | tup {a : Addr} {xs : List V} {ds : List D} : SqT c.K H a xs → RepL c A H xs ds → Rep c A H (.ref a) (.tup ds)
  | lst {a : Addr} {xs : List V} {ds : List D} : H a = some (.lst xs) → ¬ A a → RepL c A H xs ds → Rep c A H (.ref a) (.lst ds)
  | dicK {a : Addr} {kvs : List (L2.Key × V)} {ob : Obj} {ks vs : List D} : H a = some (DkO c.P c.w a kvs ob) → ¬ A a → ks.map D.lf = kvs.map (fun p => some p.1) → RepL c A H (kvs.map (·.2)) vs → Rep c A H (.ref a) (.dic ks vs)
  | dicT {a : Addr} {kvs : List (NestedKey × Addr × V)} {ob : Obj} {ks vs : List D} : H a = some (DtO c.P c.w a kvs ob) → ¬ A a → kvs ≠ [] → ks.map D.nk = kvs.map (fun p => some p.1) → RepL c A H (kvs.map fun p => V.ref p.2.1) ks → RepL c A H (kvs.map (·.2.2)) vs → Rep c A H (.ref a) (.dic ks vs)
  | fn {x : Str} {v : V} : c.G x v → Rep c A H v (.fn x)
  | scr {a : Addr} {ns : List Int} : SqF c.K H a (ns.map V.int) → Rep c A H (.ref a) (.scr ns)
inductive RepL (c : Cc) (A : Addr → Prop) (H : Hp) : List V → List D → Prop
  | nil : RepL c A H [] []
  | cons {v : V} {vs : List V} {d : D} {ds : List D} : Rep c A H v d → RepL c A H vs ds → RepL c A H (v :: vs) (d :: ds)
end

section
variable {c : Cc} {A A' : Addr → Prop} {H H' : Hp}
mutual
theorem Rep.mono (hT : ∀ a xs, SqT c.K H a xs → SqT c.K H' a xs) (hL : ∀ a u, Cl u → H a = some u → ¬ A a → H' a = some u ∧ ¬ A' a) (hF : ∀ a o u, H a = some (.frz o u) → H' a = some (.frz o u)) : ∀ (d : D) (v : V), Rep c A H v d → Rep c A' H' v d
  | .non, _, h => by cases h; exact .non
  | .bl b, _, h => by cases h; exact .bl b
  | .int i, _, h => by cases h; exact .int i
  | .str x, _, h => by cases h; exact .str x
  | .tup ds, _, h => by
    cases h with
    | tup h1 h2 => exact .tup (hT _ _ h1) (RepL.mono hT hL hF ds _ h2)
  | .lst ds, _, h => by
    cases h with
    | lst h1 h2 h3 => exact .lst (hL _ _ (by exact trivial) h1 h2).1 (hL _ _ (by exact trivial) h1 h2).2 (RepL.mono hT hL hF ds _ h3)
  | .dic ks vs, _, h => by
    cases h with
    | dicK h1 h2 h3 h4 => exact .dicK (hL _ _ (by exact trivial) h1 h2).1 (hL _ _ (by exact trivial) h1 h2).2 h3 (RepL.mono hT hL hF vs _ h4)
    | dicT h1 h2 hne h3 h4 h5 => exact .dicT (hL _ _ (by exact trivial) h1 h2).1 (hL _ _ (by exact trivial) h1 h2).2 hne h3 (RepL.mono hT hL hF ks _ h4) (RepL.mono hT hL hF vs _ h5)
  | .fn x, _, h => by
    cases h with
    | fn h => exact .fn h
  | .exc _ _, _, h => by cases h
  | .scr _, _, h => by
    cases h with
    | scr h => exact .scr (h.keep hF)
theorem RepL.mono (hT : ∀ a xs, SqT c.K H a xs → SqT c.K H' a xs) (hL : ∀ a u, Cl u → H a = some u → ¬ A a → H' a = some u ∧ ¬ A' a) (hF : ∀ a o u, H a = some (.frz o u) → H' a = some (.frz o u)) : ∀ (ds : List D) (vs : List V), RepL c A H vs ds → RepL c A' H' vs ds
  | [], _, h => by cases h; exact .nil
  | d :: ds, _, h => by
    cases h with
    | cons h1 h2 => exact .cons (Rep.mono hT hL hF d _ h1) (RepL.mono hT hL hF ds _ h2)
end
mutual
theorem Rep.imm (hT : ∀ a xs, SqT c.K H a xs → SqT c.K H' a xs) (hF : ∀ a o u, H a = some (.frz o u) → H' a = some (.frz o u)) : ∀ (d : D) (v : V), d.imm = true → Rep c A H v d → Rep c A' H' v d
  | .non, _, _, h => by cases h; exact .non
  | .bl b, _, _, h => by cases h; exact .bl b
  | .int i, _, _, h => by cases h; exact .int i
  | .str x, _, _, h => by cases h; exact .str x
  | .tup ds, _, e, h => by
    cases h with
    | tup h1 h2 => exact .tup (hT _ _ h1) (RepL.imm hT hF ds _ (by unfold D.imm at e; exact e) h2)
  | .lst ds, _, e, h => by unfold D.imm at e; cases e
  | .dic _ _, _, e, h => by unfold D.imm at e; cases e
  | .fn x, _, _, h => by
    cases h with
    | fn h => exact .fn h
  | .exc _ _, _, _, h => by cases h
  | .scr _, _, _, h => by
    cases h with
    | scr h => exact .scr (h.keep hF)
theorem RepL.imm (hT : ∀ a xs, SqT c.K H a xs → SqT c.K H' a xs) (hF : ∀ a o u, H a = some (.frz o u) → H' a = some (.frz o u)) : ∀ (ds : List D) (vs : List V), D.immL ds = true → RepL c A H vs ds → RepL c A' H' vs ds
  | [], _, _, h => by cases h; exact .nil
  | d :: ds, _, e, h => by
    unfold D.immL at e
    have e1 := Bool.and_eq_true_iff.mp e
    cases h with
    | cons h1 h2 => exact .cons (Rep.imm hT hF d _ e1.1 h1) (RepL.imm hT hF ds _ e1.2 h2)
end
theorem RepL.len : ∀ {vs : List V} {ds : List D}, RepL c A H vs ds → vs.length = ds.length
  | _, _, .nil => rfl
  | _, _, .cons _ t => by simp [RepL.len t]
theorem RepL.get : ∀ {vs : List V} {ds : List D} {i : Nat} {d : D}, RepL c A H vs ds → ds[i]? = some d → ∃ v, vs[i]? = some v ∧ Rep c A H v d
  | _, _, _, _, .nil, e => by simp at e
  | _, _, 0, _, .cons r _, e => by simp at e; subst e; exact ⟨_, rfl, r⟩
  | _, _, i + 1, _, .cons _ t, e => by
    obtain ⟨v, h1, h2⟩ := RepL.get (i := i) t (by simpa using e)
    exact ⟨v, by simpa using h1, h2⟩
theorem RepL.getV : ∀ {vs : List V} {ds : List D} {i : Nat} {v : V}, RepL c A H vs ds → vs[i]? = some v → ∃ d, ds[i]? = some d ∧ Rep c A H v d
  | _, _, _, _, .nil, e => by simp at e
  | _, _, 0, _, .cons r _, e => by simp at e; subst e; exact ⟨_, rfl, r⟩
  | _, _, i + 1, _, .cons _ t, e => by
    obtain ⟨v, h1, h2⟩ := RepL.getV (i := i) t (by simpa using e)
    exact ⟨v, by simpa using h1, h2⟩
theorem RepL.app : ∀ {vs ws : List V} {ds es : List D}, RepL c A H vs ds → RepL c A H ws es → RepL c A H (vs ++ ws) (ds ++ es)
  | _, _, _, _, .nil, s => s
  | _, _, _, _, .cons r t, s => .cons r (RepL.app t s)
theorem RepL.take : ∀ {vs : List V} {ds : List D} (n : Nat), RepL c A H vs ds → RepL c A H (vs.take n) (ds.take n)
  | _, _, 0, _ => .nil
  | _, _, _ + 1, .nil => .nil
  | _, _, n + 1, .cons r t => .cons r (RepL.take n t)
theorem RepL.drop : ∀ {vs : List V} {ds : List D} (n : Nat), RepL c A H vs ds → RepL c A H (vs.drop n) (ds.drop n)
  | _, _, 0, r => r
  | _, _, _ + 1, .nil => .nil
  | _, _, n + 1, .cons _ t => RepL.drop n t
theorem RepL.set {v : V} {d : D} (r : Rep c A H v d) : ∀ {vs : List V} {ds : List D} (i : Nat), RepL c A H vs ds → RepL c A H (vs.set i v) (ds.set i d)
  | _, _, _, .nil => .nil
  | _, _, 0, .cons _ t => .cons r t
  | _, _, i + 1, .cons q t => .cons q (RepL.set r i t)
theorem RepL.eraseIdx : ∀ {vs : List V} {ds : List D} (i : Nat), RepL c A H vs ds → RepL c A H (vs.eraseIdx i) (ds.eraseIdx i)
  | _, _, _, .nil => .nil
  | _, _, 0, .cons _ t => t
  | _, _, i + 1, .cons q t => .cons q (RepL.eraseIdx i t)
theorem RepL.rev {vs : List V} {ds : List D} (h : RepL c A H vs ds) : RepL c A H vs.reverse ds.reverse := by
  induction vs generalizing ds with
  | nil => cases h; exact .nil
  | cons v vs ih =>
    cases h with
    | cons h1 h2 =>
      rw [List.reverse_cons, List.reverse_cons]
      exact RepL.app (ih h2) (.cons h1 .nil)
theorem RepL.rep {vs : List V} {ds : List D} (h : RepL c A H vs ds) : ∀ k : Nat, RepL c A H (List.replicate k vs).flatten (List.replicate k ds).flatten
  | 0 => .nil
  | k + 1 => by
    rw [List.replicate_succ, List.replicate_succ, List.flatten_cons, List.flatten_cons]
    exact RepL.app h (RepL.rep h k)
end

theorem RepL.split {c : Cc} {A : Addr → Prop} {H : Hp} : ∀ {vs ws : List V} {ds es : List D}, vs.length = ds.length → RepL c A H (vs ++ ws) (ds ++ es) → RepL c A H vs ds ∧ RepL c A H ws es
  | [], _, [], _, _, h => ⟨.nil, h⟩
  | _ :: _, _, [], _, e, _ => by simp at e
  | [], _, _ :: _, _, e, _ => by simp at e
  | _ :: _, _, _ :: _, _, e, h => by
    cases h with
    | cons h1 h2 =>
      have := RepL.split (by simpa using e) h2
      exact ⟨.cons h1 this.1, this.2⟩
/-- a cell: a list or a dict, the values in it, their data -/
inductive Cell (c : Cc) (H : Hp) (a : Addr) : D → List V → List D → Prop
  | lst {xs : List V} {ds : List D} : H a = some (.lst xs) → Cell c H a (.lst ds) xs ds
  | dicK {kvs : List (L2.Key × V)} {ob : Obj} {ks vs : List D} : H a = some (DkO c.P c.w a kvs ob) → ks.map D.lf = kvs.map (fun p => some p.1) → Cell c H a (.dic ks vs) (kvs.map (·.2)) vs
  | dicT {kvs : List (NestedKey × Addr × V)} {ob : Obj} {ks vs : List D} : H a = some (DtO c.P c.w a kvs ob) → kvs ≠ [] → ks.map D.nk = kvs.map (fun p => some p.1) → Cell c H a (.dic ks vs) ((kvs.map fun p => V.ref p.2.1) ++ kvs.map (·.2.2)) (ks ++ vs)
section
variable {c : Cc} {A : Addr → Prop} {H H' : Hp} {a : Addr} {d : D} {xs : List V} {ds : List D}
theorem Cell.at (h : Cell c H a d xs ds) : ∃ u, H a = some u ∧ Cl u := by
  cases h with
  | lst h => exact ⟨_, h, trivial⟩
  | dicK h _ => exact ⟨_, h, trivial⟩
  | dicT h _ _ => exact ⟨_, h, trivial⟩
theorem Cell.ne (h : Cell c H a d xs ds) : H a ≠ none := by
  obtain ⟨u, e, _⟩ := h.at
  rw [e]; exact fun z => nomatch z
theorem Cell.move (h : Cell c H a d xs ds) (k : ∀ u, H a = some u → H' a = some u) : Cell c H' a d xs ds := by
  cases h with
  | lst h => exact .lst (k _ h)
  | dicK h h1 => exact .dicK (k _ h) h1
  | dicT h hne h1 => exact .dicT (k _ h) hne h1
theorem Cell.rep (h : Cell c H a d xs ds) (ha : ¬ A a) (r : RepL c A H xs ds) : Rep c A H (.ref a) d := by
  cases h with
  | lst h => exact .lst h ha r
  | dicK h h1 => exact .dicK h ha h1 r
  | dicT h hne h1 =>
    have hl := congrArg List.length h1
    rw [List.length_map, List.length_map] at hl
    have := RepL.split (by rw [List.length_map]; exact hl.symm) r
    exact .dicT h ha hne h1 this.1 this.2
theorem Cell.toL {ds' : List D} (h : Cell c H a (.lst ds) xs ds') : ds' = ds ∧ H a = some (.lst xs) := by
  cases h with
  | lst h => exact ⟨rfl, h⟩
end

/-! ### slots and their data -/
def Own (σ : St) (ρ : En) (a : Addr) : Prop := ∃ (i : Nat) (d : D), ρ[i]? = some (some (true, d)) ∧ σ[i]? = some (some (.ref a))
abbrev Av (σ : St) (ρ : En) (Z : Addr → Prop) : Addr → Prop := fun a => Z a ∨ Own σ ρ a

structure R (c : Cc) (σ : St) (H : Hp) (ρ : En) (Z : Addr → Prop) (B : Hp) : Prop where
  len : σ.length = ρ.length
  frz : ∀ (i : Nat) (d : D), ρ[i]? = some (some (false, d)) → ∃ v, σ[i]? = some (some v) ∧ Rep c (Av σ ρ Z) H v d
  own : ∀ (i : Nat) (d : D), ρ[i]? = some (some (true, d)) → ∃ (a : Addr) (ds : List D) (xs : List V), σ[i]? = some (some (.ref a)) ∧ Cell c H a d xs ds ∧ RepL c (Av σ ρ Z) H xs ds ∧ ¬ Z a ∧ B a = none
  excl : ∀ (i j : Nat) (di dj : D) (a : Addr), ρ[i]? = some (some (true, di)) → ρ[j]? = some (some (true, dj)) → σ[i]? = some (some (.ref a)) → σ[j]? = some (some (.ref a)) → i = j
  base : ∀ b o, B b = some o → H b = some o
  zd : ∀ b, Z b → H b ≠ none

theorem Rd.same {H H' : Hp} (s : Same H H') {a : Addr} {u : HO} (h : Rd H a u) : Rd H' a u := by
  rcases h with h | ⟨o, h⟩
  · exact .inl (s _ _ h)
  · exact .inr ⟨o, s _ _ h⟩
theorem SqT.same {K : PySem.W.Frag} {H H' : Hp} (s : Same H H') {a : Addr} {xs : List V} (h : SqT K H a xs) : SqT K H' a xs := by
  rcases h with h | h
  · exact .inl (Rd.same s h)
  · exact .inr h
section
variable {c : Cc} {A A' : Addr → Prop} {H H' : Hp}
theorem Rep.same (s : Same H H') {v : V} {d : D} (h : Rep c A H v d) : Rep c A H' v d := Rep.mono (fun _ _ => SqT.same s) (fun _ _ _ h1 h2 => ⟨s _ _ h1, h2⟩) (fun _ _ _ h => s _ _ h) d v h
theorem RepL.same (s : Same H H') {v : List V} {d : List D} (h : RepL c A H v d) : RepL c A H' v d := RepL.mono (fun _ _ => SqT.same s) (fun _ _ _ h1 h2 => ⟨s _ _ h1, h2⟩) (fun _ _ _ h => s _ _ h) d v h
theorem Rep.avoid (k : ∀ a, A' a → A a ∨ H a = none) {v : V} {d : D} (h : Rep c A H v d) : Rep c A' H v d :=
  Rep.mono (fun _ _ h => h) (fun a xs _ h1 h2 => ⟨h1, fun z => (k a z).elim h2 fun e => by rw [e] at h1; cases h1⟩) (fun _ _ _ h => h) d v h
theorem RepL.avoid (k : ∀ a, A' a → A a ∨ H a = none) {v : List V} {d : List D} (h : RepL c A H v d) : RepL c A' H v d :=
  RepL.mono (fun _ _ h => h) (fun a xs _ h1 h2 => ⟨h1, fun z => (k a z).elim h2 fun e => by rw [e] at h1; cases h1⟩) (fun _ _ _ h => h) d v h
theorem Rep.immA {v : V} {d : D} (e : d.imm = true) (h : Rep c A H v d) : Rep c A' H v d := Rep.imm (fun _ _ h => h) (fun _ _ _ h => h) d v e h
theorem RepL.immA {v : List V} {d : List D} (e : D.immL d = true) (h : RepL c A H v d) : RepL c A' H v d := RepL.imm (fun _ _ h => h) (fun _ _ _ h => h) d v e h
/-- all but some lists is as it was -/
def But (W : Addr → Prop) (H H' : Hp) : Prop := ∀ b o, ¬ W b → H b = some o → H' b = some o
theorem But.sqT {W : Addr → Prop} (s : But W H H') (hw : ∀ b, W b → ∃ u, H b = some u ∧ Cl u) {K : PySem.W.Frag} {a : Addr} {xs : List V} (h : SqT K H a xs) : SqT K H' a xs := by
  rcases h with (h | ⟨o, h⟩) | h
  · exact .inl (.inl (s _ _ (fun z => by obtain ⟨ys, e, cl⟩ := hw _ z; rw [h] at e; cases e; exact cl) h))
  · exact .inl (.inr ⟨o, s _ _ (fun z => by obtain ⟨ys, e, cl⟩ := hw _ z; rw [h] at e; cases e; exact cl) h⟩)
  · exact .inr h
theorem Rep.but {W : Addr → Prop} (s : But W H H') (hw : ∀ b, W b → ∃ u, H b = some u ∧ Cl u) (ha : ∀ b, W b → A b) {v : V} {d : D} (h : Rep c A H v d) : Rep c A H' v d :=
  Rep.mono (fun _ _ => But.sqT s hw) (fun a xs _ h1 h2 => ⟨s _ _ (fun z => h2 (ha _ z)) h1, h2⟩) (fun a o u h => s _ _ (fun z => by obtain ⟨ys, e, cl⟩ := hw _ z; rw [h] at e; cases e; exact cl) h) d v h
theorem RepL.but {W : Addr → Prop} (s : But W H H') (hw : ∀ b, W b → ∃ u, H b = some u ∧ Cl u) (ha : ∀ b, W b → A b) {v : List V} {d : List D} (h : RepL c A H v d) : RepL c A H' v d :=
  RepL.mono (fun _ _ => But.sqT s hw) (fun a xs _ h1 h2 => ⟨s _ _ (fun z => h2 (ha _ z)) h1, h2⟩) (fun a o u h => s _ _ (fun z => by obtain ⟨ys, e, cl⟩ := hw _ z; rw [h] at e; cases e; exact cl) h) d v h
end

section
variable {c : Cc} {σ : St} {H H' : Hp} {ρ : En} {Z Z' : Addr → Prop} {B B' : Hp}
theorem R.same (r : R c σ H ρ Z B) (s : Same H H') : R c σ H' ρ Z B where
  len := r.len
  frz := fun i d e => let ⟨v, h1, h2⟩ := r.frz i d e; ⟨v, h1, h2.same s⟩
  own := fun i d e => let ⟨a, ds, xs, h2, h3, h4, h5, h6⟩ := r.own i d e; ⟨a, ds, xs, h2, h3.move fun _ q => s _ _ q, h4.same s, h5, h6⟩
  excl := r.excl
  base := fun b o e => s _ _ (r.base b o e)
  zd := fun b z e => r.zd b z (Same.free s e)
open Classical in
/-- all that no slot owns -/
noncomputable def hull (σ : St) (ρ : En) (H : Hp) : Hp := fun b => if Own σ ρ b then none else H b
theorem hull_own {b : Addr} (h : Own σ ρ b) : hull σ ρ H b = none := by unfold hull; rw [if_pos h]
theorem hull_not {b : Addr} (h : ¬ Own σ ρ b) : hull σ ρ H b = H b := by unfold hull; rw [if_neg h]
theorem R.ownL (r : R c σ H ρ Z B) {b : Addr} (h : Own σ ρ b) : ∃ u, H b = some u ∧ Cl u := by
  obtain ⟨i, d, e1, e2⟩ := h
  obtain ⟨a, ds, xs, h2, h3, _⟩ := r.own i d e1
  rw [h2] at e2
  cases e2
  exact h3.at
theorem R.ownB (r : R c σ H ρ Z B) {b : Addr} (h : Own σ ρ b) : B b = none ∧ ¬ Z b := by
  obtain ⟨i, d, e1, e2⟩ := h
  obtain ⟨a, ds, xs, h2, h3, h4, h5, h6⟩ := r.own i d e1
  rw [h2] at e2
  cases e2
  exact ⟨h6, h5⟩
theorem R.strong (r : R c σ H ρ Z B) : R c σ H ρ Z (hull σ ρ H) where
  len := r.len
  frz := r.frz
  own := fun i d e => by
    obtain ⟨a, ds, xs, h2, h3, h4, h5, h6⟩ := r.own i d e
    exact ⟨a, ds, xs, h2, h3, h4, h5, hull_own ⟨i, d, e, h2⟩⟩
  excl := r.excl
  base := fun b o e => by
    by_cases h : Own σ ρ b
    · rw [hull_own h] at e; cases e
    · rw [hull_not h] at e; exact e
  zd := r.zd
theorem R.hull_le (r : R c σ H ρ Z B) : ∀ b o, B b = some o → hull σ ρ H b = some o := fun b o e => by
  rw [hull_not (fun h => by rw [(r.ownB h).1] at e; cases e)]
  exact r.base b o e
theorem R.weak (r : R c σ H ρ Z B') (hb : ∀ b o, B b = some o → B' b = some o) : R c σ H ρ Z B where
  len := r.len
  frz := r.frz
  own := fun i d e => by
    obtain ⟨a, ds, xs, h2, h3, h4, h5, h6⟩ := r.own i d e
    refine ⟨a, ds, xs, h2, h3, h4, h5, ?_⟩
    cases q : B a with
    | none => rfl
    | some o => rw [hb a o q] at h6; cases h6
  excl := r.excl
  base := fun b o e => r.base b o (hb b o e)
  zd := r.zd
theorem R.less (r : R c σ H ρ Z' B) (hz : ∀ b, Z b → Z' b) : R c σ H ρ Z B where
  len := r.len
  frz := fun i d e => by
    obtain ⟨v, h1, h2⟩ := r.frz i d e
    exact ⟨v, h1, h2.avoid fun a z => .inl (z.imp (hz a) id)⟩
  own := fun i d e => by
    obtain ⟨a, ds, xs, h2, h3, h4, h5, h6⟩ := r.own i d e
    exact ⟨a, ds, xs, h2, h3, h4.avoid fun a z => .inl (z.imp (hz a) id), fun z => h5 (hz _ z), h6⟩
  excl := r.excl
  base := r.base
  zd := fun b z => r.zd b (hz b z)
/-- what a later step leaves as it is -/
theorem R.keep {σ' : St} {ρ' : En} {B' : Hp} (r : R c σ H ρ Z B) (r' : R c σ' H' ρ' Z' B') (hb : ∀ b o, hull σ ρ H b = some o → B' b = some o) : But (Own σ ρ) H H' := fun b o n e => r'.base b o (hb b o (by rw [hull_not n]; exact e))
theorem R.ownLe {σ' : St} {ρ' : En} {B' : Hp} (r' : R c σ' H' ρ' Z' B') (hb : ∀ b o, hull σ ρ H b = some o → B' b = some o) {a : Addr} (h : Own σ' ρ' a) : Own σ ρ a ∨ H a = none := by
  have := (r'.ownB h).1
  by_cases q : Own σ ρ a
  · exact .inl q
  · cases e : H a with
    | none => exact .inr rfl
    | some o => rw [hb a o (by rw [hull_not q]; exact e)] at this; cases this
theorem R.keepV' {σ' : St} {ρ' : En} {B' : Hp} (r : R c σ H ρ Z B) (r' : R c σ' H' ρ' Z' B') (hb : ∀ b o, hull σ ρ H b = some o → B' b = some o) (hz : ∀ b, Z' b → Z b ∨ H b = none) {v : V} {d : D} (h : Rep c (Av σ ρ Z) H v d) : Rep c (Av σ' ρ' Z') H' v d := by
  have h1 : Rep c (fun a => (Z a ∨ Own σ ρ a) ∨ Av σ' ρ' Z' a) H v d := h.avoid fun a z => by
    rcases z with z | z | z
    · exact .inl z
    · exact (hz a z).imp .inl id
    · exact (R.ownLe r' hb z).imp .inr id
  have h2 := Rep.but (r.keep r' hb) (fun b z => r.ownL z) (fun b z => .inl (.inr z)) h1
  exact h2.avoid fun a z => .inl (.inr z)
theorem R.keepL' {σ' : St} {ρ' : En} {B' : Hp} (r : R c σ H ρ Z B) (r' : R c σ' H' ρ' Z' B') (hb : ∀ b o, hull σ ρ H b = some o → B' b = some o) (hz : ∀ b, Z' b → Z b ∨ H b = none) {v : List V} {d : List D} (h : RepL c (Av σ ρ Z) H v d) : RepL c (Av σ' ρ' Z') H' v d := by
  have h1 : RepL c (fun a => (Z a ∨ Own σ ρ a) ∨ Av σ' ρ' Z' a) H v d := h.avoid fun a z => by
    rcases z with z | z | z
    · exact .inl z
    · exact (hz a z).imp .inl id
    · exact (R.ownLe r' hb z).imp .inr id
  have h2 := RepL.but (r.keep r' hb) (fun b z => r.ownL z) (fun b z => .inl (.inr z)) h1
  exact h2.avoid fun a z => .inl (.inr z)
theorem R.keepV {ρ' : En} (r : R c σ H ρ Z B) (r' : R c σ H' ρ' Z (hull σ ρ H)) {v : V} {d : D} (h : Rep c (Av σ ρ Z) H v d) : Rep c (Av σ ρ' Z) H' v d := r.keepV' r' (fun _ _ h => h) (fun _ => .inl) h
theorem R.keepL {ρ' : En} (r : R c σ H ρ Z B) (r' : R c σ H' ρ' Z (hull σ ρ H)) {v : List V} {d : List D} (h : RepL c (Av σ ρ Z) H v d) : RepL c (Av σ ρ' Z) H' v d := r.keepL' r' (fun _ _ h => h) (fun _ => .inl) h
end
end U
namespace U
set_option autoImplicit false
open PySem PySem.Spec PyProof.Rows L2

section
variable (c : Cc) (σ : St) (H : Hp) (ρ : En) (Z : Addr → Prop) (B : Hp)
/-- a value that has come: a new list that nothing else knows, or a datum -/
def Val : Bool → V → D → Prop
  | true, v, d => ∃ (a : Addr) (ds : List D) (xs : List V), v = .ref a ∧ Cell c H a d xs ds ∧ RepL c (Av σ ρ fun b => Z b ∨ b = a) H xs ds ∧ ¬ Z a ∧ ¬ Own σ ρ a ∧ B a = none ∧ R c σ H ρ (fun b => Z b ∨ b = a) B
  | false, v, d => Rep c (Av σ ρ Z) H v d
end
/-- what an operation makes -/
def New (c : Cc) (A : Addr → Prop) (H H' : Hp) : Bool → V → D → Prop
  | true, v, d => Same H H' ∧ ∃ (a : Addr) (ds : List D) (xs : List V), v = .ref a ∧ H a = none ∧ Cell c H' a d xs ds ∧ RepL c A H xs ds
  | false, v, d => Same H H' ∧ Rep c A H' v d
section
variable {c : Cc} {σ : St} {H H' : Hp} {ρ : En} {Z : Addr → Prop} {B : Hp} {fr : Bool} {v : V} {d : D}
theorem Val.rep (h : Val c σ H ρ Z B fr v d) : Rep c (Av σ ρ Z) H v d := by
  cases fr with
  | false => exact h
  | true =>
    obtain ⟨a, ds, xs, rfl, h1, h2, h3, h4, _, _⟩ := h
    exact h1.rep (fun z => z.elim h3 h4) (h2.avoid fun b z => .inl (z.imp .inl id))
theorem New.sameH (n : New c (Av σ ρ Z) H H' fr v d) : Same H H' := by cases fr <;> exact n.1
theorem R.more (r : R c σ H ρ Z B) (s : Same H H') {a : Addr} (hn : H a = none) (ha : H' a ≠ none) : R c σ H' ρ (fun b => Z b ∨ b = a) B where
  len := r.len
  frz := fun i d e => by
    obtain ⟨v, h1, h2⟩ := r.frz i d e
    refine ⟨v, h1, Rep.same s (h2.avoid fun b z => ?_)⟩
    rcases z with (z | z) | z
    · exact .inl (.inl z)
    · exact .inr (by rw [z]; exact hn)
    · exact .inl (.inr z)
  own := fun i d e => by
    obtain ⟨a', ds, xs, h2, h3, h4, h5, h6⟩ := r.own i d e
    refine ⟨a', ds, xs, h2, h3.move fun _ q => s _ _ q, RepL.same s (h4.avoid fun b z => ?_), fun z => ?_, h6⟩
    · rcases z with (z | z) | z
      · exact .inl (.inl z)
      · exact .inr (by rw [z]; exact hn)
      · exact .inl (.inr z)
    · rcases z with z | z
      · exact h5 z
      · exact h3.ne (by rw [z]; exact hn)
  excl := r.excl
  base := fun b o e => s _ _ (r.base b o e)
  zd := fun b z e => by
    rcases z with z | z
    · exact r.zd b z (Same.free s e)
    · rw [z] at e; exact ha e
theorem R.new (r : R c σ H ρ Z B) (n : New c (Av σ ρ Z) H H' fr v d) : R c σ H' ρ Z B ∧ Val c σ H' ρ Z B fr v d := by
  refine ⟨r.same n.sameH, ?_⟩
  cases fr with
  | false => exact n.2
  | true =>
    obtain ⟨s, a, ds, xs, rfl, hn, h1, h2⟩ := n
    refine ⟨a, ds, xs, rfl, h1, RepL.same s (h2.avoid fun b z => ?_), fun z => r.zd a z hn, fun z => ?_, ?_, r.more s hn h1.ne⟩
    · rcases z with (z | z) | z
      · exact .inl (.inl z)
      · exact .inr (by rw [z]; exact hn)
      · exact .inl (.inr z)
    · obtain ⟨ys, e, _⟩ := r.ownL z
      rw [hn] at e; cases e
    · cases q : B a with
      | none => rfl
      | some o => have := r.base a o q; rw [hn] at this; cases this
end

/-- an exception that bears a datum -/
def XR (c : Cc) (A : Addr → Prop) (H : Hp) (k : Str) (d : D) (cls : Value) (od : Option Addr) : Prop :=
  ∃ (C dd : Addr) (v : V), c.XC k = some C ∧ cls = .ref C ∧ od = some dd ∧ H dd = some (.xd [(c.XF k, v)]) ∧ Rep c A H v d

abbrev EF := En → O (Bool × D × En)
/-- what is wanted of an exception -/
def XW (c : Cc) (E : XK) (σ : St) (Z : Addr → Prop) (B : Hp) : Str → D → En → Prop := fun k d ρ' => ∀ cls od H', R c σ H' ρ' Z B → XR c (Av σ ρ' Z) H' k d cls od → E cls od H'
theorem XW.weak {c : Cc} {E : XK} {σ : St} {Z : Addr → Prop} {B B' : Hp} (hb : ∀ b o, B b = some o → B' b = some o) {k : Str} {d : D} {ρ : En} (h : XW c E σ Z B k d ρ) : XW c E σ Z B' k d ρ :=
  fun cls od H' r x => h cls od H' (r.weak hb) x
def liftE (c : Cc) (E : XK) (f : EF) : TE := fun σ H Q => ∃ ρ Z B, R c σ H ρ Z B ∧ (f ρ).sat (fun r => ∀ v H', R c σ H' r.2.2 Z B → Val c σ H' r.2.2 Z B r.1 v r.2.1 → Q v H') (XW c E σ Z B)
structure DE (X : Cx) (c : Cc) (E : XK) (e : Expr) (f : EF) : Prop where
  pe : PE X e (liftE c E f)
theorem pe_imp {X : Cx} {e : Expr} {t t' : TE} (h : PE X e t) (k : ∀ σ H Q, t' σ H Q → t σ H Q) : PE X e t' := ⟨fun pins s σ H Q I q => h.run pins s σ H Q I (k σ H Q q)⟩
theorem pa_imp {X : Cx} {e : List Expr} {t t' : TA} (h : PA X e t) (k : ∀ σ H Q, t' σ H Q → t σ H Q) : PA X e t' := ⟨fun pos pins s σ H Q I q => h.run pos pins s σ H Q I (k σ H Q q)⟩
theorem pt_imp {X : Cx} {e : Expr} {t t' : TT} (h : PT X e t) (k : ∀ σ H Q, t' σ H Q → t σ H Q) : PT X e t' := ⟨fun pins s σ H Q I q => h.run pins s σ H Q I (k σ H Q q)⟩
theorem pw_imp {X : Cx} {e : Expr} {t t' : TT} (h : PW X e t) (k : ∀ σ H Q, t' σ H Q → t σ H Q) : PW X e t' := ⟨fun wh pins s σ H Q I q => h.run wh pins s σ H Q I (k σ H Q q)⟩
theorem ps_imp {X : Cx} {st : Stmt} {t t' : TS} (h : PS X st t) (k : ∀ D σ H, t' D σ H → t D σ H) : PS X st t' := ⟨fun pins s σ H D I q => h.run pins s σ H D I (k D σ H q)⟩
theorem pss_imp {X : Cx} {st : List Stmt} {t t' : TS} (h : PSs X st t) (k : ∀ D σ H, t' D σ H → t D σ H) : PSs X st t' := ⟨fun pins s σ H D I q => h.run pins s σ H D I (k D σ H q)⟩
theorem pg_imp {X : Cx} {e : Expr} {t t' : TG} (h : PG X e t) (k : ∀ v σ H Q, t' v σ H Q → t v σ H Q) : PG X e t' := ⟨fun pins s σ H v u Q I r q => h.run pins s σ H v u Q I r (k v σ H Q q)⟩

/-! ### names, constants -/
def fC (d : D) : EF := fun ρ => .ok (false, d, ρ)
def fVar (i : Nat) : EF := fun ρ => match ρ[i]? with
  | some (some (_, d)) => .ok (false, d, ρ.set i (some (false, d)))
  | _ => .bad
def fMv (i : Nat) : EF := fun ρ => match ρ[i]? with
  | some (some (true, d)) => .ok (true, d, ρ.set i none)
  | some (some (false, d)) => .ok (false, d, ρ)
  | _ => .bad

section
variable {c : Cc} {σ : St} {H H' : Hp} {ρ : En} {Z : Addr → Prop} {B : Hp} {fr : Bool} {v : V} {d : D}
theorem set_get {α : Type} {l : List α} {i j : Nat} {x y : α} (h : (l.set i x)[j]? = some y) : (i = j ∧ x = y) ∨ (i ≠ j ∧ l[j]? = some y) := by
  by_cases e : i = j
  · subst e
    by_cases k : i < l.length
    · rw [List.getElem?_set_self k] at h; exact .inl ⟨rfl, Option.some.inj h⟩
    · rw [List.getElem?_eq_none (by simpa using k)] at h; cases h
  · rw [List.getElem?_set_ne e] at h; exact .inr ⟨e, h⟩
/-- a slot's list is frozen -/
theorem own_frz {i : Nat} {x : Option (Bool × D)} (hx : ∀ d, x ≠ some (true, d)) {a : Addr} (h : Own σ (ρ.set i x) a) : Own σ ρ a := by
  obtain ⟨j, d, h1, h2⟩ := h
  rcases set_get h1 with ⟨_, e⟩ | ⟨_, e⟩
  · exact absurd e (hx d)
  · exact ⟨j, d, e, h2⟩
theorem R.frzAt (r : R c σ H ρ Z B) {i : Nat} {b : Bool} (h : ρ[i]? = some (some (b, d))) : R c σ H (ρ.set i (some (false, d))) Z B ∧ ∃ v, σ[i]? = some (some v) ∧ Rep c (Av σ (ρ.set i (some (false, d))) Z) H v d := by
  have hx : ∀ d', (some (false, d) : Option (Bool × D)) ≠ some (true, d') := fun d' e => by cases e
  have own' : ∀ a, Av σ (ρ.set i (some (false, d))) Z a → Av σ ρ Z a := fun a z => z.imp id (own_frz hx)
  have main : ∃ v, σ[i]? = some (some v) ∧ Rep c (Av σ (ρ.set i (some (false, d))) Z) H v d := by
    cases b with
    | false =>
      obtain ⟨v, h1, h2⟩ := r.frz i d h
      exact ⟨v, h1, h2.avoid fun a z => .inl (own' a z)⟩
    | true =>
      obtain ⟨a, ds, xs, h2, h3, h4, h5, h6⟩ := r.own i d h
      refine ⟨.ref a, h2, h3.rep (fun z => ?_) (h4.avoid fun a z => .inl (own' a z))⟩
      rcases z with z | z
      · exact h5 z
      · obtain ⟨j, d', e1, e2⟩ := z
        rcases set_get e1 with ⟨_, e⟩ | ⟨ne, e⟩
        · cases e
        · exact ne (r.excl i j _ _ a h e h2 e2)
  refine ⟨⟨by rw [List.length_set]; exact r.len, fun j d' e => ?_, fun j d' e => ?_, fun j k dj dk a e1 e2 => ?_, r.base, r.zd⟩, main⟩
  · rcases set_get e with ⟨e1, e2⟩ | ⟨_, e⟩
    · cases e2; subst e1; exact main
    · obtain ⟨v, h1, h2⟩ := r.frz j d' e
      exact ⟨v, h1, h2.avoid fun a z => .inl (own' a z)⟩
  · rcases set_get e with ⟨e1, e2⟩ | ⟨_, e⟩
    · cases e2
    · obtain ⟨a, ds, xs, h2, h3, h4, h5, h6⟩ := r.own j d' e
      exact ⟨a, ds, xs, h2, h3, h4.avoid fun a z => .inl (own' a z), h5, h6⟩
  · rcases set_get e1 with ⟨_, e⟩ | ⟨_, e1⟩
    · cases e
    · rcases set_get e2 with ⟨_, e⟩ | ⟨_, e2⟩
      · cases e
      · exact r.excl j k dj dk a e1 e2
/-- a slot is given up -/
theorem R.drop (r : R c σ H ρ Z B) (i : Nat) : R c σ H (ρ.set i none) Z B := by
  have hx : ∀ d', (none : Option (Bool × D)) ≠ some (true, d') := fun d' e => by cases e
  have own' : ∀ a, Av σ (ρ.set i none) Z a → Av σ ρ Z a := fun a z => z.imp id (own_frz hx)
  refine ⟨by rw [List.length_set]; exact r.len, fun j d' e => ?_, fun j d' e => ?_, fun j k dj dk a e1 e2 => ?_, r.base, r.zd⟩
  · rcases set_get e with ⟨_, e2⟩ | ⟨_, e⟩
    · cases e2
    · obtain ⟨v, h1, h2⟩ := r.frz j d' e
      exact ⟨v, h1, h2.avoid fun a z => .inl (own' a z)⟩
  · rcases set_get e with ⟨_, e2⟩ | ⟨_, e⟩
    · cases e2
    · obtain ⟨a, ds, xs, h2, h3, h4, h5, h6⟩ := r.own j d' e
      exact ⟨a, ds, xs, h2, h3, h4.avoid fun a z => .inl (own' a z), h5, h6⟩
  · rcases set_get e1 with ⟨_, e⟩ | ⟨_, e1⟩
    · cases e
    · rcases set_get e2 with ⟨_, e⟩ | ⟨_, e2⟩
      · cases e
      · exact r.excl j k dj dk a e1 e2
theorem R.moved (r : R c σ H ρ Z B) {i : Nat} (h : ρ[i]? = some (some (true, d))) : ∃ v, σ[i]? = some (some v) ∧ Val c σ H (ρ.set i none) Z B true v d := by
  obtain ⟨a, ds, xs, h2, h3, h4, h5, h6⟩ := r.own i d h
  have hx : ∀ d', (none : Option (Bool × D)) ≠ some (true, d') := fun d' e => by cases e
  have no : ¬ Own σ (ρ.set i none) a := fun z => by
    obtain ⟨j, d', e1, e2⟩ := z
    rcases set_get e1 with ⟨_, e⟩ | ⟨ne, e⟩
    · cases e
    · exact ne (r.excl i j _ _ a h e h2 e2)
  have own' : ∀ b, Av σ (ρ.set i none) (fun b => Z b ∨ b = a) b → Av σ ρ Z b := fun b z => by
    rcases z with (z | z) | z
    · exact .inl z
    · subst z; exact .inr ⟨i, _, h, h2⟩
    · exact .inr (own_frz hx z)
  refine ⟨.ref a, h2, a, ds, xs, rfl, h3, h4.avoid fun b z => .inl (own' b z), h5, no, h6, ?_⟩
  have r' := r.drop i
  refine ⟨r'.len, fun j d' e => ?_, fun j d' e => ?_, r'.excl, r'.base, fun b z => ?_⟩
  · rcases set_get e with ⟨_, e2⟩ | ⟨_, e⟩
    · cases e2
    · obtain ⟨v, h1, h2⟩ := r.frz j d' e
      exact ⟨v, h1, h2.avoid fun a z => .inl (own' a z)⟩
  · rcases set_get e with ⟨_, e2⟩ | ⟨ne, e⟩
    · cases e2
    · obtain ⟨a2, ds, xs, k2, h3, h4, k5, h6⟩ := r.own j d' e
      refine ⟨a2, ds, xs, k2, h3, h4.avoid fun a z => .inl (own' a z), fun z => ?_, h6⟩
      rcases z with z | z
      · exact k5 z
      · subst z; exact ne (r.excl i j _ _ _ h e h2 k2)
  · rcases z with z | z
    · exact r.zd b z
    · subst z; exact h3.ne
end

section
variable {X : Cx} {c : Cc} {E : XK} {pos : Pos}
theorem de_C {e : Expr} {v : V} {d : D} (h : PE X e (tC v)) (r : ∀ A H, Rep c A H v d) : DE X c E e (fC d) :=
  ⟨pe_imp h fun σ H Q ⟨ρ, Z, B, R, q⟩ => q v H R (r _ _)⟩
theorem de_int {i : Int} {j : Nat} : DE X c E (.Constant (.int i) j pos) (fC (.int i)) := de_C pe_int fun _ _ => .int i
theorem de_bl {b : Bool} {j : Nat} : DE X c E (.Constant (.bool b) j pos) (fC (.bl b)) := de_C pe_bl fun _ _ => .bl b
theorem de_non {j : Nat} : DE X c E (.Constant .none j pos) (fC .non) := de_C pe_non fun _ _ => .non
theorem de_str {x : Str} {j : Nat} : DE X c E (.Constant (.str x) j pos) (fC (.str x)) := de_C pe_str fun _ _ => .str x
theorem de_var {e : Expr} (i : Nat) (h : PE X e (tVar i)) : DE X c E e (fVar i) := by
  refine ⟨pe_imp h fun σ H Q ⟨ρ, Z, B, R, q⟩ => ?_⟩
  unfold fVar at q
  cases hi : ρ[i]? with
  | none => rw [hi] at q; exact q.elim
  | some o =>
    rw [hi] at q
    cases o with
    | none => exact q.elim
    | some p =>
      obtain ⟨b, d⟩ := p
      obtain ⟨r', v, h1, h2⟩ := R.frzAt hi
      exact ⟨v, h1, q v H r' h2⟩
theorem de_mv {e : Expr} (i : Nat) (h : PE X e (tVar i)) : DE X c E e (fMv i) := by
  refine ⟨pe_imp h fun σ H Q ⟨ρ, Z, B, R, q⟩ => ?_⟩
  unfold fMv at q
  cases hi : ρ[i]? with
  | none => rw [hi] at q; exact q.elim
  | some o =>
    rw [hi] at q
    cases o with
    | none => exact q.elim
    | some p =>
      obtain ⟨b, d⟩ := p
      cases b with
      | true =>
        obtain ⟨v, h1, h2⟩ := R.moved hi
        exact ⟨v, h1, q v H (R.drop i) h2⟩
      | false =>
        obtain ⟨v, h1, h2⟩ := R.frz i d hi
        exact ⟨v, h1, q v H R h2⟩
end

/-! ### operands: a value, or a name that is looked at when all operands are there -/
inductive Pk where
  | val (f : EF)
  | var (i : Nat)
def slotD (ρ : En) (i : Nat) : Option D := match ρ[i]? with
  | some (some (_, d)) => some d
  | _ => none
def Pk.ev : Pk → En → O (Option D × En)
  | .val f, ρ => (f ρ).bind fun r => .ok (some r.2.1, r.2.2)
  | .var i, ρ => match ρ[i]? with
    | some (some _) => .ok (none, ρ)
    | _ => .bad
def Pk.get (p : Pk) (od : Option D) (ρ : En) : Option D := match od with
  | some d => some d
  | none => match p with
    | .var i => slotD ρ i
    | .val _ => none
/-- an operand's value while others are reckoned -/
def PkV (c : Cc) (σ : St) (H : Hp) (ρ : En) (Z : Addr → Prop) (p : Pk) (od : Option D) (v : V) : Prop := match od with
  | some d => Rep c (Av σ ρ Z) H v d
  | none => ∃ i, p = .var i ∧ σ[i]? = some (some v)
/-- .. when all are there: a datum, or a slot's own list -/
def RepT (c : Cc) (A : Addr → Prop) (H : Hp) (v : V) (d : D) : Prop := Rep c A H v d ∨ ∃ (a : Addr) (ds : List D) (xs : List V), v = .ref a ∧ Cell c H a d xs ds ∧ RepL c A H xs ds
def liftP (c : Cc) (E : XK) (p : Pk) : TE := fun σ H Q => ∃ ρ Z B, R c σ H ρ Z B ∧ (p.ev ρ).sat (fun r => ∀ v H', R c σ H' r.2 Z B → PkV c σ H' r.2 Z p r.1 v → Q v H') (XW c E σ Z B)
structure DP (X : Cx) (c : Cc) (E : XK) (e : Expr) (p : Pk) : Prop where
  pe : PE X e (liftP c E p)
section
variable {X : Cx} {c : Cc} {E : XK} {e : Expr}
theorem dp_val {f : EF} (h : DE X c E e f) : DP X c E e (.val f) := by
  refine ⟨pe_imp h.pe fun σ H Q ⟨ρ, Z, B, R, q⟩ => ⟨ρ, Z, B, R, ?_⟩⟩
  exact O.sat_then (o := f ρ) q (fun r h v H' R' V' => h v H' R' V'.rep) fun _ _ _ h => h
theorem dp_var (i : Nat) (h : PE X e (tVar i)) : DP X c E e (.var i) := by
  refine ⟨pe_imp h fun σ H Q ⟨ρ, Z, B, R, q⟩ => ?_⟩
  unfold Pk.ev at q
  dsimp only at q
  cases hi : ρ[i]? with
  | none => rw [hi] at q; exact q.elim
  | some o =>
    rw [hi] at q
    cases o with
    | none => exact q.elim
    | some p =>
      obtain ⟨b, d⟩ := p
      cases b with
      | false =>
        obtain ⟨v, h1, _⟩ := R.frz i d hi
        exact ⟨v, h1, q v H R ⟨i, rfl, h1⟩⟩
      | true =>
        obtain ⟨a, _, _, h2, _⟩ := R.own i d hi
        exact ⟨_, h2, q _ H R ⟨i, rfl, h2⟩⟩
end
section
variable {c : Cc} {σ : St} {H H' : Hp} {ρ ρ' : En} {Z : Addr → Prop} {B : Hp} {p : Pk} {od : Option D} {v : V} {d : D}
theorem PkV.keep (h : PkV c σ H ρ Z p od v) (r : R c σ H ρ Z B) (r' : R c σ H' ρ' Z (hull σ ρ H)) : PkV c σ H' ρ' Z p od v := by
  cases od with
  | some d => exact r.keepV r' h
  | none => exact h
theorem PkV.fin (h : PkV c σ H ρ Z p od v) (r : R c σ H ρ Z B) (g : p.get od ρ = some d) : RepT c (Av σ ρ Z) H v d := by
  cases od with
  | some d' =>
    have e : d' = d := Option.some.inj g
    subst e
    exact .inl h
  | none =>
    obtain ⟨i, rfl, h1⟩ := h
    have g : slotD ρ i = some d := g
    unfold slotD at g
    cases hi : ρ[i]? with
    | none => rw [hi] at g; cases g
    | some o =>
      rw [hi] at g
      cases o with
      | none => cases g
      | some p =>
        obtain ⟨b, d'⟩ := p
        have e : d' = d := Option.some.inj g
        subst e
        cases b with
        | false =>
          obtain ⟨w, h2, h3⟩ := r.frz i d' hi
          rw [h1] at h2; cases h2
          exact .inl h3
        | true =>
          obtain ⟨a, ds, xs, h2, h3, h4, _⟩ := r.own i _ hi
          rw [h1] at h2; cases h2
          exact .inr ⟨a, ds, xs, rfl, h3, h4⟩
end

/-! ### operations on two operands, on one, on many -/
def get2 (g : D → D → Option (Bool × D)) (a b : Option D) (ρ : En) : O (Bool × D × En) := match a, b with
  | some x, some y => match g x y with
    | some r => .ok (r.1, r.2, ρ)
    | none => .bad
  | _, _ => .bad
def op2 (g : D → D → Option (Bool × D)) (p q : Pk) : EF := fun ρ => (p.ev ρ).bind fun a => (q.ev a.2).bind fun b => get2 g (p.get a.1 b.2) (q.get b.1 b.2) b.2
/-- an operation on data, and its rule on values -/
def GS2 (c : Cc) (g : D → D → Option (Bool × D)) (r : R2) : Prop := ∀ (A : Addr → Prop) (H : Hp) (x y : V) (d1 d2 : D) (fr : Bool) (d : D) (Q : VK), RepT c A H x d1 → RepT c A H y d2 → g d1 d2 = some (fr, d) →
  (∀ v H', New c A H H' fr v d → Q v H') → r x y H Q
theorem get2_ok {g : D → D → Option (Bool × D)} {a b : Option D} {ρ : En} {p : Bool × D × En → Prop} {q : Str → D → En → Prop} (h : (get2 g a b ρ).sat p q) : ∃ x y fr d, a = some x ∧ b = some y ∧ g x y = some (fr, d) ∧ p (fr, d, ρ) := by
  unfold get2 at h
  cases a with
  | none => exact h.elim
  | some x =>
    cases b with
    | none => exact h.elim
    | some y =>
      dsimp only at h
      cases hg : g x y with
      | none => rw [hg] at h; exact h.elim
      | some r => rw [hg] at h; exact ⟨x, y, r.1, r.2, rfl, rfl, hg, h⟩
section
variable {X : Cx} {c : Cc} {E : XK} {e a b : Expr} {p q : Pk}
theorem lift_op2 {g : D → D → Option (Bool × D)} {r : R2} (hr : GS2 c g r) {σ : St} {H : Hp} {Q : VK} (h : liftE c E (op2 g p q) σ H Q) : tOp r (liftP c E p) (liftP c E q) σ H Q := by
  obtain ⟨ρ, Z, B, r0, h⟩ := h
  refine ⟨ρ, Z, B, r0, O.sat_then (o := p.ev ρ) h (fun a ha v1 H1 r1 pv1 => ?_) fun _ _ _ h => h⟩
  refine ⟨a.2, Z, hull σ a.2 H1, r1.strong, O.sat_then ha (fun b hb v2 H2 r2 pv2 => ?_) fun _ _ _ h => XW.weak r1.hull_le h⟩
  obtain ⟨x, y, fr, d, e1, e2, e3, fin⟩ := get2_ok hb
  refine hr (Av σ b.2 Z) H2 v1 v2 x y fr d Q ((pv1.keep r1 r2).fin r2 e1) (pv2.fin r2 e2) e3 fun v H' n => ?_
  obtain ⟨k1, k2⟩ := (r2.weak r1.hull_le).new n
  exact fin v H' k1 k2
theorem de_op2 {g : D → D → Option (Bool × D)} {r : R2} (hr : GS2 c g r) (ha : DP X c E a p) (hb : DP X c E b q) (mk : ∀ {ta tb : TE}, PE X a ta → PE X b tb → PE X e (tOp r ta tb)) : DE X c E e (op2 g p q) :=
  ⟨pe_imp (mk ha.pe hb.pe) fun _ _ _ h => lift_op2 hr h⟩
end

def op1 (g : D → Option (Bool × D)) (p : Pk) : EF := fun ρ => (p.ev ρ).bind fun a => match p.get a.1 a.2 with
  | some x => match g x with
    | some r => .ok (r.1, r.2, a.2)
    | none => .bad
  | none => .bad
def GS1 (c : Cc) (g : D → Option (Bool × D)) (r : V → Hp → VK → Prop) : Prop := ∀ (A : Addr → Prop) (H : Hp) (x : V) (d1 : D) (fr : Bool) (d : D) (Q : VK), RepT c A H x d1 → g d1 = some (fr, d) →
  (∀ v H', New c A H H' fr v d → Q v H') → r x H Q
section
variable {X : Cx} {c : Cc} {E : XK} {e a b : Expr} {p q : Pk}
theorem lift_op1 {g : D → Option (Bool × D)} {r : V → Hp → VK → Prop} (hr : GS1 c g r) {σ : St} {H : Hp} {Q : VK} (h : liftE c E (op1 g p) σ H Q) : tUn r (liftP c E p) σ H Q := by
  obtain ⟨ρ, Z, B, r0, h⟩ := h
  refine ⟨ρ, Z, B, r0, O.sat_then (o := p.ev ρ) h (fun a ha v1 H1 r1 pv1 => ?_) fun _ _ _ h => h⟩
  cases e1 : p.get a.1 a.2 with
  | none => rw [e1] at ha; exact ha.elim
  | some x =>
    rw [e1] at ha
    dsimp only at ha
    cases e3 : g x with
    | none => rw [e3] at ha; exact ha.elim
    | some w =>
      rw [e3] at ha
      refine hr (Av σ a.2 Z) H1 v1 x w.1 w.2 Q (pv1.fin r1 e1) e3 fun v H' n => ?_
      obtain ⟨k1, k2⟩ := r1.new n
      exact ha v H' k1 k2
theorem de_op1 {g : D → Option (Bool × D)} {r : V → Hp → VK → Prop} (hr : GS1 c g r) (ha : DP X c E a p) (mk : ∀ {ta : TE}, PE X a ta → PE X e (tUn r ta)) : DE X c E e (op1 g p) :=
  ⟨pe_imp (mk ha.pe) fun _ _ _ h => lift_op1 hr h⟩
end

def Pk.evs : List Pk → En → O (List (Option D) × En)
  | [], ρ => .ok ([], ρ)
  | p :: ps, ρ => (p.ev ρ).bind fun a => (Pk.evs ps a.2).bind fun b => .ok (a.1 :: b.1, b.2)
def Pk.gets : List Pk → List (Option D) → En → Option (List D)
  | [], [], _ => some []
  | p :: ps, o :: os, ρ => match p.get o ρ, Pk.gets ps os ρ with
    | some d, some ds => some (d :: ds)
    | _, _ => none
  | _, _, _ => none
inductive PkVs (c : Cc) (σ : St) (H : Hp) (ρ : En) (Z : Addr → Prop) : List Pk → List (Option D) → List V → Prop
  | nil : PkVs c σ H ρ Z [] [] []
  | cons {p : Pk} {o : Option D} {v : V} {ps : List Pk} {os : List (Option D)} {vs : List V} : PkV c σ H ρ Z p o v → PkVs c σ H ρ Z ps os vs → PkVs c σ H ρ Z (p :: ps) (o :: os) (v :: vs)
inductive RepTs (c : Cc) (A : Addr → Prop) (H : Hp) : List V → List D → Prop
  | nil : RepTs c A H [] []
  | cons {v : V} {d : D} {vs : List V} {ds : List D} : RepT c A H v d → RepTs c A H vs ds → RepTs c A H (v :: vs) (d :: ds)
theorem PkVs.fin {c : Cc} {σ : St} {H : Hp} {ρ : En} {Z : Addr → Prop} {B : Hp} (r : R c σ H ρ Z B) : ∀ {ps : List Pk} {os : List (Option D)} {vs : List V} {ds : List D}, PkVs c σ H ρ Z ps os vs → Pk.gets ps os ρ = some ds → RepTs c (Av σ ρ Z) H vs ds
  | _, _, _, ds, .nil, e => by
    have e' : ([] : List D) = ds := Option.some.inj e
    subst e'
    exact .nil
  | p :: ps, o :: os, _, ds, .cons h t, e => by
    unfold Pk.gets at e
    cases h1 : p.get o ρ with
    | none => rw [h1] at e; cases e
    | some d =>
      cases h2 : Pk.gets ps os ρ with
      | none => rw [h1, h2] at e; cases e
      | some es =>
        rw [h1, h2] at e
        have e' : d :: es = ds := Option.some.inj e
        subst e'
        exact .cons (h.fin r h1) (PkVs.fin r t h2)
def liftPs (c : Cc) (E : XK) (ps : List Pk) : TA := fun σ H Q => ∃ ρ Z B, R c σ H ρ Z B ∧ (Pk.evs ps ρ).sat (fun r => ∀ vs H', R c σ H' r.2 Z B → PkVs c σ H' r.2 Z ps r.1 vs → Q vs H') (XW c E σ Z B)
structure DPs (X : Cx) (c : Cc) (E : XK) (es : List Expr) (ps : List Pk) : Prop where
  pa : PA X es (liftPs c E ps)
section
variable {X : Cx} {c : Cc} {E : XK} {e a b : Expr} {es : List Expr} {p q : Pk} {ps : List Pk}
theorem dps_nil : DPs X c E [] [] := ⟨pa_imp pa_nil fun σ H Q ⟨ρ, Z, B, R, q⟩ => q [] H R .nil⟩
theorem dps_cons (h : DP X c E e p) (t : DPs X c E es ps) (hs : starEach (e :: es) X.env = (false, eval e X.env) :: starEach es X.env := by rfl) : DPs X c E (e :: es) (p :: ps) := by
  refine ⟨pa_imp (pa_cons h.pe t.pa hs) fun σ H Q ⟨ρ, Z, B, r0, h⟩ => ?_⟩
  refine ⟨ρ, Z, B, r0, O.sat_then (o := p.ev ρ) h (fun a ha v1 H1 r1 pv1 => ?_) fun _ _ _ h => h⟩
  refine ⟨a.2, Z, hull σ a.2 H1, r1.strong, O.sat_then ha (fun b hb vs H2 r2 pv2 => ?_) fun _ _ _ h => XW.weak r1.hull_le h⟩
  exact hb (v1 :: vs) H2 (r2.weak r1.hull_le) (.cons (pv1.keep r1 r2) pv2)
end
def opN (g : List D → Option (Bool × D)) (ps : List Pk) : EF := fun ρ => (Pk.evs ps ρ).bind fun a => match Pk.gets ps a.1 a.2 with
  | some x => match g x with
    | some r => .ok (r.1, r.2, a.2)
    | none => .bad
  | none => .bad
def GSN (c : Cc) (g : List D → Option (Bool × D)) (r : List V → Hp → VK → Prop) : Prop := ∀ (A : Addr → Prop) (H : Hp) (xs : List V) (ds : List D) (fr : Bool) (d : D) (Q : VK), RepTs c A H xs ds → g ds = some (fr, d) →
  (∀ v H', New c A H H' fr v d → Q v H') → r xs H Q
section
variable {X : Cx} {c : Cc} {E : XK} {e a b : Expr} {es : List Expr} {p q : Pk} {ps : List Pk}
theorem de_opN {g : List D → Option (Bool × D)} {r : List V → Hp → VK → Prop} (hr : GSN c g r) (ha : DPs X c E es ps) (mk : ∀ {t : TA}, PA X es t → PE X e (tCB r t)) : DE X c E e (opN g ps) := by
  refine ⟨pe_imp (mk ha.pa) fun σ H Q ⟨ρ, Z, B, r0, h⟩ => ?_⟩
  refine ⟨ρ, Z, B, r0, O.sat_then (o := Pk.evs ps ρ) h (fun a ha v1 H1 r1 pv1 => ?_) fun _ _ _ h => h⟩
  cases e1 : Pk.gets ps a.1 a.2 with
  | none => rw [e1] at ha; exact ha.elim
  | some x =>
    rw [e1] at ha
    dsimp only at ha
    cases e3 : g x with
    | none => rw [e3] at ha; exact ha.elim
    | some w =>
      rw [e3] at ha
      refine hr (Av σ a.2 Z) H1 v1 x w.1 w.2 Q (pv1.fin r1 e1) e3 fun v H' n => ?_
      obtain ⟨k1, k2⟩ := r1.new n
      exact ha v H' k1 k2
end

/-! ### displays -/
def evA : List EF → En → O (List D × En)
  | [], ρ => .ok ([], ρ)
  | f :: fs, ρ => (f ρ).bind fun a => (evA fs a.2.2).bind fun b => .ok (a.2.1 :: b.1, b.2)
def liftA (c : Cc) (E : XK) (fs : List EF) : TA := fun σ H Q => ∃ ρ Z B, R c σ H ρ Z B ∧ (evA fs ρ).sat (fun r => ∀ vs H', R c σ H' r.2 Z B → RepL c (Av σ r.2 Z) H' vs r.1 → Q vs H') (XW c E σ Z B)
structure DA (X : Cx) (c : Cc) (E : XK) (es : List Expr) (fs : List EF) : Prop where
  pa : PA X es (liftA c E fs)
def fTup (fs : List EF) : EF := fun ρ => (evA fs ρ).bind fun a => if a.1.length ≤ 16777216 then .ok (false, .tup a.1, a.2) else .bad
def fLst (fs : List EF) : EF := fun ρ => (evA fs ρ).bind fun a => if a.1.length ≤ 16777216 then .ok (true, .lst a.1, a.2) else .bad
section
variable {X : Cx} {c : Cc} {E : XK} {e a b : Expr} {es : List Expr} {f : EF} {fs : List EF} {pos : Pos}
theorem da_nil : DA X c E [] [] := ⟨pa_imp pa_nil fun σ H Q ⟨ρ, Z, B, R, q⟩ => q [] H R .nil⟩
theorem da_cons (h : DE X c E e f) (t : DA X c E es fs) (hs : starEach (e :: es) X.env = (false, eval e X.env) :: starEach es X.env := by rfl) : DA X c E (e :: es) (f :: fs) := by
  refine ⟨pa_imp (pa_cons h.pe t.pa hs) fun σ H Q ⟨ρ, Z, B, r0, h⟩ => ?_⟩
  refine ⟨ρ, Z, B, r0, O.sat_then (o := f ρ) h (fun a ha v1 H1 r1 pv1 => ?_) fun _ _ _ h => h⟩
  refine ⟨a.2.2, Z, hull σ a.2.2 H1, r1.strong, O.sat_then ha (fun b hb vs H2 r2 pv2 => ?_) fun _ _ _ h => XW.weak r1.hull_le h⟩
  exact hb (v1 :: vs) H2 (r2.weak r1.hull_le) (.cons (r1.keepV r2 pv1.rep) pv2)
theorem same_new {H : Hp} {p : Addr} {o : HO} (h : H p = none) : Same H (upd H p o) := fun b x e => by rw [upd_ne (ne_of_none e h)]; exact e
theorem de_tup {k : Nat} (h : DA X c E es fs) : DE X c E (.Tuple es k pos) (fTup fs) := by
  refine ⟨pe_imp (pe_tup h.pa) fun σ H Q ⟨ρ, Z, B, r0, h⟩ => ?_⟩
  refine ⟨ρ, Z, B, r0, O.sat_then (o := evA fs ρ) h (fun a ha v1 H1 r1 pv1 => ?_) fun _ _ _ h => h⟩
  by_cases hl : a.1.length ≤ 16777216
  · rw [if_pos hl] at ha
    refine ⟨by rw [sizeLine_eq, pv1.len]; exact hl, fun p np => ?_⟩
    obtain ⟨k1, k2⟩ := r1.new (fr := false) (v := .ref p) (d := .tup a.1) (H' := upd H1 p (.tup v1)) ⟨same_new np, .tup (.inl (.inl upd_same)) (RepL.same (same_new np) pv1)⟩
    exact ha _ _ k1 k2
  · rw [if_neg hl] at ha; exact ha.elim
theorem de_lst (h : DA X c E es fs) : DE X c E (.List es pos) (fLst fs) := by
  refine ⟨pe_imp (pe_lst h.pa) fun σ H Q ⟨ρ, Z, B, r0, h⟩ => ?_⟩
  refine ⟨ρ, Z, B, r0, O.sat_then (o := evA fs ρ) h (fun a ha v1 H1 r1 pv1 => ?_) fun _ _ _ h => h⟩
  by_cases hl : a.1.length ≤ 16777216
  · rw [if_pos hl] at ha
    refine ⟨by rw [sizeLine_eq, pv1.len]; exact hl, fun p np => ?_⟩
    obtain ⟨k1, k2⟩ := r1.new (fr := true) (v := .ref p) (d := .lst a.1) (H' := upd H1 p (.lst v1)) ⟨same_new np, p, a.1, v1, rfl, np, .lst upd_same, pv1⟩
    exact ha _ _ k1 k2
  · rw [if_neg hl] at ha; exact ha.elim
end
end U
namespace U
set_option autoImplicit false
open PySem PySem.Spec PyProof.Rows L2

/-! ### a slot's list changes; a slot is stored -/
section
variable {c : Cc} {σ : St} {H H' : Hp} {ρ : En} {Z : Addr → Prop} {B : Hp} {fr : Bool} {v : V} {d : D}
theorem own_same {i : Nat} {d d' : D} (h : ρ[i]? = some (some (true, d))) {a : Addr} : Own σ (ρ.set i (some (true, d'))) a ↔ Own σ ρ a := by
  have hi : i < ρ.length := by
    by_cases k : i < ρ.length
    · exact k
    · rw [List.getElem?_eq_none (by omega)] at h; cases h
  constructor
  · rintro ⟨j, e, h1, h2⟩
    rcases set_get h1 with ⟨e1, e2⟩ | ⟨_, e2⟩
    · subst e1; exact ⟨i, d, h, h2⟩
    · exact ⟨j, e, e2, h2⟩
  · rintro ⟨j, e, h1, h2⟩
    by_cases k : i = j
    · subst k; exact ⟨i, d', by rw [List.getElem?_set_self hi], h2⟩
    · exact ⟨j, e, by rw [List.getElem?_set_ne k]; exact h1, h2⟩
theorem R.change (r : R c σ H ρ Z B) {i : Nat} {a : Addr} {d' : D} {xs : List V} {ds : List D} (h : ρ[i]? = some (some (true, d))) (hs : σ[i]? = some (some (.ref a))) (k : But (· = a) H H') (ha : Cell c H' a d' xs ds)
    (hr : RepL c (Av σ ρ Z) H' xs ds) : R c σ H' (ρ.set i (some (true, d'))) Z B := by
  have oi : Own σ ρ a := ⟨i, d, h, hs⟩
  have av : ∀ b, Av σ (ρ.set i (some (true, d'))) Z b → Av σ ρ Z b := fun b z => z.imp id (own_same h).mp
  have kw : ∀ b, b = a → ∃ u, H b = some u ∧ Cl u := fun b z => by subst z; exact r.ownL oi
  refine ⟨by rw [List.length_set]; exact r.len, fun j d2 e => ?_, fun j d2 e => ?_, fun j l dj dl b e1 e2 s1 s2 => ?_, fun b o e => ?_, fun b z e => ?_⟩
  · rcases set_get e with ⟨_, e2⟩ | ⟨_, e⟩
    · cases e2
    · obtain ⟨v, h1, h2⟩ := r.frz j d2 e
      exact ⟨v, h1, (Rep.but k kw (fun b z => by subst z; exact .inr oi) h2).avoid fun a z => .inl (av a z)⟩
  · rcases set_get e with ⟨e1, e2⟩ | ⟨ne, e⟩
    · cases e2; subst e1
      exact ⟨a, ds, xs, hs, ha, hr.avoid fun b z => .inl (av b z), (r.ownB oi).2, (r.ownB oi).1⟩
    · obtain ⟨a2, ds2, xs2, h2, h3, h4, h5, h6⟩ := r.own j d2 e
      have na : a2 ≠ a := fun z => by subst z; exact ne (r.excl i j _ _ _ h e hs h2)
      exact ⟨a2, ds2, xs2, h2, h3.move fun _ q => k _ _ na q, (RepL.but k kw (fun b z => by subst z; exact .inr oi) h4).avoid fun a z => .inl (av a z), h5, h6⟩
  · have back : ∀ (j : Nat) (dj : D), (ρ.set i (some (true, d')))[j]? = some (some (true, dj)) → ∃ dj', ρ[j]? = some (some (true, dj')) := fun j dj e => by
      rcases set_get e with ⟨e1, _⟩ | ⟨_, e⟩
      · subst e1; exact ⟨d, h⟩
      · exact ⟨dj, e⟩
    obtain ⟨d1, e1⟩ := back j dj e1
    obtain ⟨d2, e2⟩ := back l dl e2
    exact r.excl j l d1 d2 b e1 e2 s1 s2
  · refine k b o (fun z => ?_) (r.base b o e)
    subst z
    rw [(r.ownB oi).1] at e; cases e
  · cases q : H b with
    | none => exact r.zd b z q
    | some o =>
      have nb : b ≠ a := fun z' => by subst z'; exact (r.ownB oi).2 z
      rw [k b o nb q] at e; cases e
theorem R.assign (r : R c σ H ρ Z B) (hv : Val c σ H ρ Z B fr v d) (i : Nat) : R c (σ.set i (some v)) H (ρ.set i (some (fr, d))) Z B := by
  rcases Nat.lt_or_ge i ρ.length with hi | hi
  case inr =>
    rw [List.set_eq_of_length_le hi, List.set_eq_of_length_le (by rw [r.len]; exact hi)]
    exact r
  have hiσ : i < σ.length := by rw [r.len]; exact hi
  cases fr with
  | false =>
    have hv : Rep c (Av σ ρ Z) H v d := hv
    have ow : ∀ b, Own (σ.set i (some v)) (ρ.set i (some (false, d))) b → Own σ ρ b := fun b ⟨j, e, h1, h2⟩ => by
      rcases set_get h1 with ⟨_, e2⟩ | ⟨ne, e2⟩
      · cases e2
      · rw [List.getElem?_set_ne ne] at h2; exact ⟨j, e, e2, h2⟩
    have av : ∀ b, Av (σ.set i (some v)) (ρ.set i (some (false, d))) Z b → Av σ ρ Z b := fun b z => z.imp id (ow b)
    refine ⟨by simp [r.len], fun j d' e => ?_, fun j d' e => ?_, fun j l dj dl b e1 e2 s1 s2 => ?_, r.base, r.zd⟩
    · rcases set_get e with ⟨e1, e2⟩ | ⟨ne, e⟩
      · cases e2; subst e1
        exact ⟨v, by rw [List.getElem?_set_self hiσ], hv.avoid fun b z => .inl (av b z)⟩
      · obtain ⟨u, h1, h2⟩ := r.frz j d' e
        exact ⟨u, by rw [List.getElem?_set_ne ne]; exact h1, h2.avoid fun b z => .inl (av b z)⟩
    · rcases set_get e with ⟨e1, e2⟩ | ⟨ne, e⟩
      · cases e2
      · obtain ⟨a, ds, xs, h2, h3, h4, h5, h6⟩ := r.own j d' e
        exact ⟨a, ds, xs, by rw [List.getElem?_set_ne ne]; exact h2, h3, h4.avoid fun b z => .inl (av b z), h5, h6⟩
    · rcases set_get e1 with ⟨_, e⟩ | ⟨n1, e1⟩
      · cases e
      · rcases set_get e2 with ⟨_, e⟩ | ⟨n2, e2⟩
        · cases e
        · rw [List.getElem?_set_ne n1] at s1
          rw [List.getElem?_set_ne n2] at s2
          exact r.excl j l dj dl b e1 e2 s1 s2
  | true =>
    obtain ⟨a, ds, xs, rfl, h3, h4, h5, h6, h7, r2⟩ := hv
    have ow : ∀ b, Own (σ.set i (some (.ref a))) (ρ.set i (some (true, d))) b → b = a ∨ Own σ ρ b := fun b ⟨j, e, k1, k2⟩ => by
      rcases set_get k1 with ⟨e1, e2⟩ | ⟨ne, e2⟩
      · subst e1
        rw [List.getElem?_set_self hiσ] at k2
        cases k2; exact .inl rfl
      · rw [List.getElem?_set_ne ne] at k2; exact .inr ⟨j, e, e2, k2⟩
    have av : ∀ b, Av (σ.set i (some (.ref a))) (ρ.set i (some (true, d))) Z b → Av σ ρ (fun b => Z b ∨ b = a) b := fun b z => by
      rcases z with z | z
      · exact .inl (.inl z)
      · rcases ow b z with z | z
        · exact .inl (.inr z)
        · exact .inr z
    refine ⟨by simp [r.len], fun j d' e => ?_, fun j d' e => ?_, fun j l dj dl b e1 e2 s1 s2 => ?_, r.base, r.zd⟩
    · rcases set_get e with ⟨e1, e2⟩ | ⟨ne, e⟩
      · cases e2
      · obtain ⟨u, k1, k2⟩ := r2.frz j d' e
        exact ⟨u, by rw [List.getElem?_set_ne ne]; exact k1, k2.avoid fun b z => .inl (av b z)⟩
    · rcases set_get e with ⟨e1, e2⟩ | ⟨ne, e⟩
      · cases e2; subst e1
        exact ⟨a, ds, xs, by rw [List.getElem?_set_self hiσ], h3, h4.avoid fun b z => .inl (av b z), h5, h7⟩
      · obtain ⟨b, es, ys, k2, k3, k4, k5, k6⟩ := r2.own j d' e
        exact ⟨b, es, ys, by rw [List.getElem?_set_ne ne]; exact k2, k3, k4.avoid fun b z => .inl (av b z), fun z => k5 (.inl z), k6⟩
    · have key : ∀ (j : Nat) (dj : D), i ≠ j → ρ[j]? = some (some (true, dj)) → (σ.set i (some (.ref a)))[j]? = some (some (.ref b)) → b ≠ a := fun j dj n e s z => by
        rw [List.getElem?_set_ne n] at s
        subst z
        exact h6 ⟨j, dj, e, s⟩
      rcases set_get e1 with ⟨q1, _⟩ | ⟨n1, e1⟩
      · rcases set_get e2 with ⟨q2, _⟩ | ⟨n2, e2⟩
        · rw [← q1, ← q2]
        · subst q1
          rw [List.getElem?_set_self hiσ] at s1
          cases s1
          exact absurd rfl (key l dl n2 e2 s2)
      · rcases set_get e2 with ⟨q2, _⟩ | ⟨n2, e2⟩
        · subst q2
          rw [List.getElem?_set_self hiσ] at s2
          cases s2
          exact absurd rfl (key j dj n1 e1 s1)
        · rw [List.getElem?_set_ne n1] at s1
          rw [List.getElem?_set_ne n2] at s2
          exact r.excl j l dj dl b e1 e2 s1 s2
end

/-! ### a def's promise, by its meaning on data -/
abbrev FD := List D → O (Bool × D × List D)
/-- what a call hands back: a new list that is the caller's own, or a datum -/
def NewC (c : Cc) (A : Addr → Prop) (H H' : Hp) : Bool → V → D → Prop
  | true, v, d => ∃ (a : Addr) (ds : List D) (xs : List V), v = .ref a ∧ H a = none ∧ Cell c H' a d xs ds ∧ RepL c (fun b => A b ∨ b = a) H' xs ds
  | false, v, d => Rep c A H' v d
/-- io: the first argument is a list that the def may change -/
def spOf (c : Cc) : Bool → FD → Sp
  | false, g => fun vs H Q E => ∃ (ds : List D) (Z : Addr → Prop), (∀ b, Z b → H b ≠ none) ∧ RepL c Z H vs ds ∧
      (g ds).sat (fun r => ∀ v H', Same H H' → NewC c Z H H' r.1 v r.2.1 → Q v H') (fun k d _ => ∀ cls od H', Same H H' → XR c Z H' k d cls od → E cls od H')
  | true, g => fun vs H Q E => ∃ (a : Addr) (ws vs' : List V) (es ds' : List D) (Z : Addr → Prop), vs = .ref a :: vs' ∧ (∀ b, Z b → H b ≠ none) ∧ ¬ Z a ∧ H a = some (.lst ws) ∧
      RepL c (fun b => Z b ∨ b = a) H ws es ∧ RepL c (fun b => Z b ∨ b = a) H vs' ds' ∧
      (g (.lst es :: ds')).sat (fun r => ∀ v H' ws' es', But (· = a) H H' → r.2.2 = [.lst es'] → H' a = some (.lst ws') → RepL c (fun b => (Z b ∨ b = a) ∨ (r.1 = true ∧ v = .ref b)) H' ws' es' → NewC c (fun b => Z b ∨ b = a) H H' r.1 v r.2.1 → Q v H') (fun _ _ _ => False)

/-! ### calls -/
def Pk.isVar : Pk → Nat → Bool
  | .var i, j => i == j
  | .val _, _ => false
def frzAll : List Pk → En → En
  | [], ρ => ρ
  | .var i :: ps, ρ => frzAll ps (match ρ[i]? with
    | some (some (_, d)) => ρ.set i (some (false, d))
    | _ => ρ)
  | .val _ :: ps, ρ => frzAll ps ρ
def D.calm : D → Bool
  | .lst ds => D.immL ds
  | .dic ks vs => D.immL ks && D.immL vs
  | d => d.imm
def callRes (ps : List Pk) (ρ : En) : O (Bool × D × List D) → O (Bool × D × En)
  | .ok r => .ok (r.1, r.2.1, if (if r.1 then r.2.1.calm else r.2.1.imm) then ρ else frzAll ps ρ)
  | .ex k d _ => .ex k d (frzAll ps ρ)
  | .bad => .bad
def fCall (g : FD) (ps : List Pk) : EF := fun ρ => (Pk.evs ps ρ).bind fun a => match Pk.gets ps a.1 a.2 with
  | some ds => callRes ps a.2 (g ds)
  | none => .bad
/-- the first argument is the list in slot i -/
def callResIO (i : Nat) (ps : List Pk) (ρ : En) : O (Bool × D × List D) → O (Bool × D × En)
  | .ok r => match r.2.2 with
    | [.lst es] => .ok (r.1, r.2.1, if (if r.1 then r.2.1.calm else r.2.1.imm) && D.immL es then ρ.set i (some (true, .lst es)) else (frzAll ps ρ).set i (some (true, .lst es)))
    | _ => .bad
  | _ => .bad
def fCallIO (g : FD) (i : Nat) (ps : List Pk) : EF := fun ρ => match ρ[i]? with
  | some (some (true, _)) => (Pk.evs ps ρ).bind fun a => match Pk.gets ps a.1 a.2 with
    | some ds => match a.2[i]? with
      | some (some (true, .lst es0)) => if ps.all (fun p => !p.isVar i) then callResIO i ps a.2 (g (.lst es0 :: ds)) else .bad
      | _ => .bad
    | none => .bad
  | _ => .bad

section
variable {c : Cc} {σ : St} {H H' : Hp} {ρ : En} {Z : Addr → Prop} {B : Hp} {fr : Bool} {v : V} {d : D}
theorem frzPs : ∀ (ps : List Pk) (ρ : En), R c σ H ρ Z B → R c σ H (frzAll ps ρ) Z B
  | [], _, r => r
  | .val _ :: ps, ρ, r => frzPs ps ρ r
  | .var i :: ps, ρ, r => by
    unfold frzAll
    cases h : ρ[i]? with
    | none => exact frzPs ps ρ r
    | some o =>
      cases o with
      | none => exact frzPs ps ρ r
      | some p =>
        have r' := (r.frzAt h).1
        exact frzPs ps _ r'
theorem frz_get : ∀ (ps : List Pk) (ρ : En) (j : Nat) (b : Bool) (d : D), ρ[j]? = some (some (b, d)) → ∃ b', (frzAll ps ρ)[j]? = some (some (b', d)) ∧ (b = false → b' = false)
  | [], ρ, j, b, d, h => ⟨b, h, id⟩
  | .val _ :: ps, ρ, j, b, d, h => frz_get ps ρ j b d h
  | .var i :: ps, ρ, j, b, d, h => by
    unfold frzAll
    cases hi : ρ[i]? with
    | none => exact frz_get ps ρ j b d h
    | some o =>
      cases o with
      | none => exact frz_get ps ρ j b d h
      | some p =>
        obtain ⟨b', d'⟩ := p
        by_cases e : i = j
        · subst e
          rw [hi] at h; cases h
          have hl : i < ρ.length := by
            by_cases k : i < ρ.length
            · exact k
            · rw [List.getElem?_eq_none (by omega)] at hi; cases hi
          obtain ⟨b2, h1, h2⟩ := frz_get ps (ρ.set i (some (false, d))) i false d (by rw [List.getElem?_set_self hl])
          exact ⟨b2, h1, fun _ => h2 rfl⟩
        · exact frz_get ps _ j b d (by rw [List.getElem?_set_ne e]; exact h)
theorem frz_other : ∀ (ps : List Pk) (ρ : En) (j : Nat), ps.all (fun p => !p.isVar j) = true → (frzAll ps ρ)[j]? = ρ[j]?
  | [], ρ, j, _ => rfl
  | .val _ :: ps, ρ, j, h => by
    simp only [List.all_cons, Bool.and_eq_true] at h
    exact frz_other ps ρ j h.2
  | .var i :: ps, ρ, j, h => by
    simp only [List.all_cons, Bool.and_eq_true, Pk.isVar, Bool.not_eq_true', beq_eq_false_iff_ne] at h
    unfold frzAll
    rw [frz_other ps _ j h.2]
    split
    · rw [List.getElem?_set_ne h.1]
    · rfl
theorem frz_var : ∀ (ps : List Pk) (ρ : En) (j : Nat) (d : D), slotD ρ j = some d → (∃ p ∈ ps, p = Pk.var j) → (frzAll ps ρ)[j]? = some (some (false, d))
  | [], _, _, _, _, h => by obtain ⟨_, h, _⟩ := h; cases h
  | .val _ :: ps, ρ, j, d, hd, h => by
    obtain ⟨p, hp, e⟩ := h
    refine frz_var ps ρ j d hd ⟨p, ?_, e⟩
    rcases List.mem_cons.mp hp with q | q
    · rw [q] at e; cases e
    · exact q
  | .var i :: ps, ρ, j, d, hd, h => by
    have hd' : ∃ b, ρ[j]? = some (some (b, d)) := by
      unfold slotD at hd
      split at hd
      · rename_i b d' e; cases hd; exact ⟨b, e⟩
      · cases hd
    obtain ⟨b, hj⟩ := hd'
    by_cases e : i = j
    · subst e
      unfold frzAll
      rw [hj]
      have hl : i < ρ.length := by
        by_cases k : i < ρ.length
        · exact k
        · rw [List.getElem?_eq_none (by omega)] at hj; cases hj
      obtain ⟨b2, h1, h2⟩ := frz_get ps (ρ.set i (some (false, d))) i false d (by rw [List.getElem?_set_self hl])
      rw [h2 rfl] at h1
      exact h1
    · have rest : ∃ p ∈ ps, p = Pk.var j := by
        obtain ⟨p, hp, q⟩ := h
        rcases List.mem_cons.mp hp with z | z
        · rw [z] at q; cases q; exact absurd rfl e
        · exact ⟨p, z, q⟩
      unfold frzAll
      refine frz_var ps _ j d ?_ rest
      split
      · unfold slotD; rw [List.getElem?_set_ne e, hj]
      · exact hd
theorem frz_own : ∀ (ps : List Pk) (ρ : En) (a : Addr), Own σ (frzAll ps ρ) a → Own σ ρ a
  | [], _, _, h => h
  | .val _ :: ps, ρ, a, h => frz_own ps ρ a h
  | .var i :: ps, ρ, a, h => by
    unfold frzAll at h
    have h' := frz_own ps _ a h
    split at h'
    · exact own_frz (fun d e => by cases e) h'
    · exact h'
/-- with all named operands frozen each operand is a datum that nothing changes -/
theorem PkVs.frz (r : R c σ H ρ Z B) : ∀ {qs ps : List Pk} {os : List (Option D)} {vs : List V} {ds : List D}, (∀ p ∈ qs, p ∈ ps) → PkVs c σ H ρ Z qs os vs → Pk.gets qs os ρ = some ds → RepL c (Av σ (frzAll ps ρ) Z) H vs ds
  | _, _, _, _, ds, _, .nil, e => by
    have e' : ([] : List D) = ds := Option.some.inj e
    subst e'
    exact .nil
  | p :: qs, ps, o :: os, _, ds, hm, .cons h t, e => by
    unfold Pk.gets at e
    cases h1 : p.get o ρ with
    | none => rw [h1] at e; cases e
    | some d =>
      cases h2 : Pk.gets qs os ρ with
      | none => rw [h1, h2] at e; cases e
      | some es =>
        rw [h1, h2] at e
        have e' : d :: es = ds := Option.some.inj e
        subst e'
        refine .cons ?_ (PkVs.frz r (fun p hp => hm p (List.mem_cons_of_mem _ hp)) t h2)
        cases o with
        | some d' =>
          have q : d' = d := Option.some.inj h1
          subst q
          exact Rep.avoid (fun a z => .inl (z.imp id (frz_own ps ρ a))) h
        | none =>
          obtain ⟨i, rfl, hi⟩ := h
          have q := frz_var ps ρ i d h1 ⟨_, hm _ List.mem_cons_self, rfl⟩
          obtain ⟨w, k1, k2⟩ := (frzPs ps ρ r).frz i d q
          rw [hi] at k1; cases k1
          exact k2
theorem immL_app : ∀ ds es : List D, D.immL (ds ++ es) = (D.immL ds && D.immL es)
  | [], es => by rw [List.nil_append]; show _ = (true && _); rw [Bool.true_and]
  | d :: ds, es => by
    show (d.imm && D.immL (ds ++ es)) = ((d.imm && D.immL ds) && _)
    rw [immL_app ds es, Bool.and_assoc]
theorem calm_rep {H0 : Hp} {d : D} {A A' : Addr → Prop} {a : Addr} {ds : List D} {xs : List V} (e : d.calm = true) (hd : Cell c H0 a d xs ds) (h : RepL c A H xs ds) : RepL c A' H xs ds := by
  cases hd with
  | lst _ => exact RepL.immA e h
  | dicK _ _ => exact RepL.immA (Bool.and_eq_true_iff.mp e).2 h
  | dicT _ _ _ => exact RepL.immA (by rw [immL_app]; exact e) h
end
section
variable {X : Cx} {c : Cc} {E : XK} {CX : CXT} {k : Nat} {f : Addr} {fd : FuncData} {qs : List Str} {x : Str} {p pos : Pos} {e : Expr} {es : List Expr} {ps : List Pk} {dvs : List V} {ds : List Value} {g : FD} {dds : List D}
/-- defaults: data -/
def DV (c : Cc) (dvs : List V) (dds : List D) : Prop := ∀ A H, RepL c A H dvs dds
theorem dv_nil : DV c [] [] := fun _ _ => .nil
/-- behind a call that changes nothing -/
theorem R.called {σ : St} {H H' : Hp} {ρ : En} {Z : Addr → Prop} {B : Hp} {fr : Bool} {d : D} {v : V} (r : R c σ H ρ Z B) (ps : List Pk) (s : Same H H') (n : NewC c (Av σ (frzAll ps ρ) Z) H H' fr v d) :
    R c σ H' (if (if fr then d.calm else d.imm) then ρ else frzAll ps ρ) Z B ∧ Val c σ H' (if (if fr then d.calm else d.imm) then ρ else frzAll ps ρ) Z B fr v d := by
  have r2 := frzPs ps ρ r
  have main : ∀ ρ', R c σ H ρ' Z B → (∀ a, Av σ ρ' Z a → Av σ (frzAll ps ρ) Z a ∨ (if fr then d.calm else d.imm) = true) → R c σ H' ρ' Z B ∧ Val c σ H' ρ' Z B fr v d := fun ρ' r' hav => by
    refine ⟨r'.same s, ?_⟩
    cases fr with
    | false =>
      by_cases q : d.imm = true
      · exact Rep.immA q n
      · exact Rep.avoid (fun a z => .inl ((hav a z).resolve_right q)) n
    | true =>
      obtain ⟨a, ds, xs, rfl, h1, h2, h3⟩ := n
      have hRL : RepL c (Av σ ρ' fun b => Z b ∨ b = a) H' xs ds := by
        by_cases q : d.calm = true
        · exact calm_rep q h2 h3
        · refine RepL.avoid (fun b z => .inl ?_) h3
          rcases z with (z | z) | z
          · exact .inl ((hav b (.inl z)).resolve_right q)
          · exact .inr z
          · exact .inl ((hav b (.inr z)).resolve_right q)
      refine ⟨a, ds, xs, rfl, h2, hRL, fun z => r'.zd a z h1, fun z => ?_, ?_, r'.more s h1 h2.ne⟩
      · obtain ⟨ys, e, _⟩ := r'.ownL z
        rw [h1] at e; cases e
      · cases q : B a with
        | none => rfl
        | some o => have := r'.base a o q; rw [h1] at this; cases this
  by_cases q : (if fr then d.calm else d.imm) = true
  · rw [if_pos q]
    exact main ρ r fun _ _ => .inr q
  · rw [if_neg q]
    exact main (frzAll ps ρ) r2 fun _ z => .inl z
theorem lift_call {σ : St} {H : Hp} {Q : VK} (hdv : DV c dvs dds) (h : liftE c E (fCall (fun ds => g (ds ++ dds)) ps) σ H Q) : tCall (spOf c false g) dvs E (liftPs c E ps) σ H Q := by
  obtain ⟨ρ, Z, B, r0, h⟩ := h
  refine ⟨ρ, Z, B, r0, O.sat_then (o := Pk.evs ps ρ) h (fun a ha v1 H1 r1 pv1 => ?_) fun _ _ _ h => h⟩
  cases e1 : Pk.gets ps a.1 a.2 with
  | none => rw [e1] at ha; exact ha.elim
  | some ds =>
    rw [e1] at ha
    have ha : (callRes ps a.2 (g (ds ++ dds))).sat _ _ := ha
    have rf := frzPs ps a.2 r1
    refine ⟨ds ++ dds, Av σ (frzAll ps a.2) Z, fun b z => ?_, RepL.app (PkVs.frz r1 (fun _ h => h) pv1 e1) (hdv _ _), ?_⟩
    · rcases z with z | z
      · exact rf.zd b z
      · obtain ⟨ys, e, _⟩ := rf.ownL z
        rw [e]; exact fun z => nomatch z
    · cases hg : g (ds ++ dds) with
      | bad => rw [hg] at ha; exact ha.elim
      | ok r =>
        rw [hg] at ha
        intro v H' s n
        obtain ⟨k1, k2⟩ := r1.called ps s n
        exact ha v H' k1 k2
      | ex kk d ρ' =>
        rw [hg] at ha
        intro cls od H' s x
        exact ha cls od H' (rf.same s) x
end
end U
namespace U
set_option autoImplicit false
open PySem PySem.Spec PyProof.Rows L2

section
variable {X : Cx} {c : Cc} {E : XK} {CX : CXT} {k : Nat} {f : Addr} {fd : FuncData} {qs ks : List Str} {x : Str} {p pos : Pos} {e : Expr} {es : List Expr} {kws : List Keyword} {ps ps2 : List Pk} {dvs : List V} {ds : List Value} {g : FD} {dds : List D}
theorem de_call (hdv : DV c dvs dds) (F : FnOk X.prog X.w X.K X.mg X.base CX k f fd qs (spOf c false g)) (hr : Room k X.A) (hg : Gl X x) (hm : X.mg x = some (.ref f)) (hk : PySem.W.keepIn X.K (.ref f) = true) (hb : Binds X.K fd qs ds) (hd : Vals dvs ds) (hx : Passes CX X E)
    (ha : DPs X c E (e :: es) ps) (hdb : (x == ("__debug__" : Str)) = false := by decide) (he : starEach (e :: es) X.env = (false, eval e X.env) :: starEach es X.env := by rfl) (hpl : (backTo pos (starEach es X.env)).any (·.1) = false := by rfl) :
    DE X c E (.Call (.Name x p) (e :: es) [] pos) (fCall (fun ds => g (ds ++ dds)) ps) := ⟨pe_imp (pe_call F hr hg hm hk hb hd hx ha.pa hdb he hpl) fun _ _ _ h => lift_call hdv h⟩
theorem de_call0 (hdv : DV c dvs dds) (F : FnOk X.prog X.w X.K X.mg X.base CX k f fd qs (spOf c false g)) (hr : Room k X.A) (hg : Gl X x) (hm : X.mg x = some (.ref f)) (hk : PySem.W.keepIn X.K (.ref f) = true) (hb : Binds X.K fd qs ds) (hd : Vals dvs ds) (hx : Passes CX X E)
    (hdb : (x == ("__debug__" : Str)) = false := by decide) : DE X c E (.Call (.Name x p) [] [] pos) (fCall (fun ds => g (ds ++ dds)) []) := ⟨pe_imp (pe_call0 F hr hg hm hk hb hd hx hdb) fun _ _ _ ⟨ρ, Z, B, r0, h⟩ => by
      obtain ⟨ρ', Z', B', r1, h1⟩ := lift_call (E := E) (ps := []) (c := c) (g := g) hdv ⟨ρ, Z, B, r0, h⟩
      exact h1 [] _ r1 .nil⟩
/-- keywords -/
structure DK (X : Cx) (c : Cc) (E : XK) (kws : List Keyword) (ps : List Pk) : Prop where
  pk : PK X kws (liftPs c E ps)
theorem pk_imp {X : Cx} {e : List Keyword} {t t' : TA} (h : PK X e t) (k : ∀ σ H Q, t' σ H Q → t σ H Q) : PK X e t' := ⟨fun pos pins s σ H Q I q => h.run pos pins s σ H Q I (k σ H Q q)⟩
theorem lift_cons {q : Pk} {σ : L2.St} {H : Hp} {Q : List V → Hp → Prop} (h : liftPs c E (q :: ps) σ H Q) : tCons (liftP c E q) (liftPs c E ps) σ H Q := by
  obtain ⟨ρ, Z, B, r0, h⟩ := h
  refine ⟨ρ, Z, B, r0, O.sat_then (o := q.ev ρ) h (fun a ha v1 H1 r1 pv1 => ?_) fun _ _ _ h => h⟩
  refine ⟨a.2, Z, hull σ a.2 H1, r1.strong, O.sat_then ha (fun b hb vs H2 r2 pv2 => ?_) fun _ _ _ h => XW.weak r1.hull_le h⟩
  exact hb (v1 :: vs) H2 (r2.weak r1.hull_le) (.cons (pv1.keep r1 r2) pv2)
theorem dk_nil : DK X c E [] [] := ⟨pk_imp pk_nil fun σ H Q ⟨ρ, Z, B, R, q⟩ => q [] H R .nil⟩
theorem dk_cons {q : Pk} {nm : Option Str} {kpos : Pos} (h : DP X c E e q) (t : DK X c E kws ps) : DK X c E (⟨nm, e, kpos⟩ :: kws) (q :: ps) :=
  ⟨pk_imp (pk_cons h.pe t.pk) fun _ _ _ h => lift_cons h⟩
theorem evs_app : ∀ (ps ps2 : List Pk) (ρ : En), Pk.evs (ps ++ ps2) ρ = (Pk.evs ps ρ).bind fun a => (Pk.evs ps2 a.2).bind fun b => .ok (a.1 ++ b.1, b.2)
  | [], ps2, ρ => by
    show Pk.evs ps2 ρ = (Pk.evs ps2 ρ).bind _
    cases Pk.evs ps2 ρ <;> rfl
  | p :: ps, ps2, ρ => by
    show (p.ev ρ).bind _ = ((p.ev ρ).bind _).bind _
    cases p.ev ρ with
    | ok a =>
      show (Pk.evs (ps ++ ps2) a.2).bind _ = ((Pk.evs ps a.2).bind _).bind _
      rw [evs_app ps ps2 a.2]
      cases Pk.evs ps a.2 with
      | ok b =>
        show ((Pk.evs ps2 b.2).bind _).bind _ = (Pk.evs ps2 b.2).bind _
        cases Pk.evs ps2 b.2 <;> rfl
      | ex _ _ _ => rfl
      | bad => rfl
    | ex _ _ _ => rfl
    | bad => rfl
theorem PkVs.keep {σ : L2.St} {H H' : Hp} {ρ ρ' : En} {Z : Addr → Prop} {B : Hp} (r : R c σ H ρ Z B) (r' : R c σ H' ρ' Z (hull σ ρ H)) : ∀ {ps : List Pk} {os : List (Option D)} {vs : List V}, PkVs c σ H ρ Z ps os vs → PkVs c σ H' ρ' Z ps os vs
  | _, _, _, .nil => .nil
  | _, _, _, .cons h t => .cons (h.keep r r') (PkVs.keep r r' t)
theorem PkVs.app {σ : L2.St} {H : Hp} {ρ : En} {Z : Addr → Prop} : ∀ {ps ps2 : List Pk} {os os2 : List (Option D)} {vs vs2 : List V}, PkVs c σ H ρ Z ps os vs → PkVs c σ H ρ Z ps2 os2 vs2 → PkVs c σ H ρ Z (ps ++ ps2) (os ++ os2) (vs ++ vs2)
  | _, _, _, _, _, _, .nil, h => h
  | _, _, _, _, _, _, .cons h t, h2 => .cons h (PkVs.app t h2)
/-- positional values, then keywords': as one list -/
theorem lift_app {σ : L2.St} {H : Hp} {Q : List V → Hp → Prop} (hl : ∀ vs : List V, True) (h : liftPs c E (ps ++ ps2) σ H Q) : liftPs c E ps σ H fun vs H1 => liftPs c E ps2 σ H1 fun zs H2 => Q (vs ++ zs) H2 := by
  obtain ⟨ρ, Z, B, r0, h⟩ := h
  rw [evs_app] at h
  refine ⟨ρ, Z, B, r0, O.sat_then (o := Pk.evs ps ρ) h (fun a ha v1 H1 r1 pv1 => ?_) fun _ _ _ h => h⟩
  refine ⟨a.2, Z, hull σ a.2 H1, r1.strong, O.sat_then ha (fun b hb vs H2 r2 pv2 => ?_) fun _ _ _ h => XW.weak r1.hull_le h⟩
  exact hb (v1 ++ vs) H2 (r2.weak r1.hull_le) ((PkVs.keep r1 r2 pv1).app pv2)
/-- the parameters' order: gD on data, gV on values -/
def Perm2 (c : Cc) (gV : List V → List V) (gD : List D → List D) : Prop := ∀ A H vs ds, RepL c A H vs ds → RepL c A H (gV vs) (gD ds)
theorem lift_callP {σ : L2.St} {H : Hp} {Q : VK} {gV : List V → List V} {gD : List D → List D} (hp : Perm2 c gV gD) (h : liftE c E (fCall (fun ds => g (gD ds)) ps) σ H Q) : liftPs c E ps σ H fun vs H1 => spOf c false g (gV vs) H1 Q E := by
  obtain ⟨ρ, Z, B, r0, h⟩ := h
  refine ⟨ρ, Z, B, r0, O.sat_then (o := Pk.evs ps ρ) h (fun a ha v1 H1 r1 pv1 => ?_) fun _ _ _ h => h⟩
  cases e1 : Pk.gets ps a.1 a.2 with
  | none => rw [e1] at ha; exact ha.elim
  | some ds =>
    rw [e1] at ha
    have ha : (callRes ps a.2 (g (gD ds))).sat _ _ := ha
    have rf := frzPs ps a.2 r1
    refine ⟨gD ds, Av σ (frzAll ps a.2) Z, fun b z => ?_, hp _ _ _ _ (PkVs.frz r1 (fun _ h => h) pv1 e1), ?_⟩
    · rcases z with z | z
      · exact rf.zd b z
      · obtain ⟨ys, e, _⟩ := rf.ownL z
        rw [e]; exact fun z => nomatch z
    · cases hg : g (gD ds) with
      | bad => rw [hg] at ha; exact ha.elim
      | ok r =>
        rw [hg] at ha
        intro v H' s n
        obtain ⟨k1, k2⟩ := r1.called ps s n
        exact ha v H' k1 k2
      | ex kk d ρ' =>
        rw [hg] at ha
        intro cls od H' s x
        exact ha cls od H' (rf.same s) x
theorem de_callK {gf : List Value → List Value → List Value} {gV : List V → List V → List V} {gW : List V → List V} {gD : List D → List D} (hp : Perm2 c gW gD) (hgw : ∀ vs zs, vs.length = (e :: es).length → gV vs zs = gW (vs ++ zs)) (F : FnOk X.prog X.w X.K X.mg X.base CX k f fd qs (spOf c false g)) (hr : Room k X.A) (hg : Gl X x) (hm : X.mg x = some (.ref f)) (hk : PySem.W.keepIn X.K (.ref f) = true)
    (hb : KBinds X.K fd qs ks gf gV) (hx : Passes CX X E) (ha : DPs X c E (e :: es) ps) (hkw : DK X c E kws ps2) (hlen : ps.length = (e :: es).length := by rfl) (hall : (backToKw pos (keywordEach kws X.env)).all (·.1.isSome) = true := by rfl) (hks : (backToKw pos (keywordEach kws X.env)).filterMap (·.1) = ks := by rfl)
    (hdb : (x == ("__debug__" : Str)) = false := by decide) (he : starEach (e :: es) X.env = (false, eval e X.env) :: starEach es X.env := by rfl)
    (hpl : ((backTo pos (starEach (e :: es) X.env)).any (·.1) || (backToKw pos (keywordEach kws X.env)).any (·.1.isNone)) = false := by rfl) :
    DE X c E (.Call (.Name x p) (e :: es) kws pos) (fCall (fun ds => g (gD ds)) (ps ++ ps2)) := by
  refine ⟨pe_imp (pe_callK F hr hg hm hk hb hx ha.pa hkw.pk hall hks hdb he hpl) fun σ H Q h => ?_⟩
  have h1 := lift_app (fun _ => trivial) (lift_callP hp h)
  obtain ⟨ρ, Z, B, r0, h2⟩ := h1
  refine ⟨ρ, Z, B, r0, O.sat_mono h2 (fun a ha vs H' r1 pv1 => ?_) fun _ _ _ h => h⟩
  have hvl : vs.length = (e :: es).length := by
    have : ∀ {ps : List Pk} {os : List (Option D)} {vs : List V}, PkVs c σ H' a.2 Z ps os vs → vs.length = ps.length := by
      intro ps os vs h
      induction h with
      | nil => rfl
      | cons _ _ ih => simp [ih]
    rw [this pv1, hlen]
  have h3 := ha vs H' r1 pv1
  obtain ⟨ρ2, Z2, B2, r2, h4⟩ := h3
  refine ⟨ρ2, Z2, B2, r2, O.sat_mono h4 (fun b hb zs H2 r3 pv3 => ?_) fun _ _ _ h => h⟩
  show spOf c false g (gV vs zs) H2 Q E
  rw [hgw vs zs hvl]
  exact hb zs H2 r3 pv3
/-- f(k = v, ..) -/
theorem pe_callK0 {gf : List Value → List Value → List Value} {gV : List V → List V → List V} {sp : Sp} {tk : TA} (F : FnOk X.prog X.w X.K X.mg X.base CX k f fd qs sp) (hr : Room k X.A) (hg : Gl X x) (hm : X.mg x = some (.ref f)) (hk : PySem.W.keepIn X.K (.ref f) = true) (hb : KBinds X.K fd qs ks gf gV) (hx : Passes CX X E)
    (hkw : PK X kws tk) (hall : (backToKw pos (keywordEach kws X.env)).all (·.1.isSome) = true := by rfl) (hks : (backToKw pos (keywordEach kws X.env)).filterMap (·.1) = ks := by rfl)
    (hdb : (x == ("__debug__" : Str)) = false := by decide)
    (hpl : ((backTo pos (starEach [] X.env)).any (·.1) || (backToKw pos (keywordEach kws X.env)).any (·.1.isNone)) = false := by rfl) :
    PE X (.Call (.Name x p) [] kws pos) (fun σ H Q => tk σ H fun zs H2 => sp (gV [] zs) H2 Q E) := by
  refine ⟨fun pins s σ H Q I h => ?_⟩
  refine wpAny_Call_Name_kw (ld_glob I hg hm ?_ hdb)
  refine PySem.W.callWith_KW0 (h₀ := X.base) I.ok.mod.kin hk hall (thn (hkw.run pos pins s σ H _ I h) fun ws s2 ⟨zs, H2, I2, rz, q2⟩ => ⟨I2.kIn, ?_⟩) hpl
  rw [hks]
  exact run_fnk (us := []) (vs := []) F hr hb hx I2 .nil rz q2
theorem de_callK0 {gf : List Value → List Value → List Value} {gV : List V → List V → List V} {gD : List D → List D} (hp : Perm2 c (gV []) gD) (F : FnOk X.prog X.w X.K X.mg X.base CX k f fd qs (spOf c false g)) (hr : Room k X.A) (hg : Gl X x) (hm : X.mg x = some (.ref f)) (hk : PySem.W.keepIn X.K (.ref f) = true)
    (hb : KBinds X.K fd qs ks gf gV) (hx : Passes CX X E) (hkw : DK X c E kws ps) (hall : (backToKw pos (keywordEach kws X.env)).all (·.1.isSome) = true := by rfl) (hks : (backToKw pos (keywordEach kws X.env)).filterMap (·.1) = ks := by rfl)
    (hdb : (x == ("__debug__" : Str)) = false := by decide)
    (hpl : ((backTo pos (starEach [] X.env)).any (·.1) || (backToKw pos (keywordEach kws X.env)).any (·.1.isNone)) = false := by rfl) :
    DE X c E (.Call (.Name x p) [] kws pos) (fCall (fun ds => g (gD ds)) ps) :=
  ⟨pe_imp (pe_callK0 F hr hg hm hk hb hx hkw.pk hall hks hdb hpl) fun _ _ _ h => lift_callP hp h⟩

theorem lift_callIO {i : Nat} {σ : L2.St} {H : Hp} {Q : VK} (h : liftE c E (fCallIO g i ps) σ H Q) : tCall (spOf c true g) [] E (tCons (tVar i) (liftPs c E ps)) σ H Q := by
  obtain ⟨ρ, Z, B, r0, h⟩ := h
  unfold fCallIO at h
  split at h
  case h_2 => exact h.elim
  rename_i d00 h0
  obtain ⟨a0, _, _, hs0, _⟩ := r0.own i d00 h0
  refine ⟨.ref a0, hs0, ρ, Z, B, r0, O.sat_then (o := Pk.evs ps ρ) h (fun a ha v1 H1 r1 pv1 => ?_) fun _ _ _ h => h⟩
  cases e1 : Pk.gets ps a.1 a.2 with
  | none => rw [e1] at ha; exact ha.elim
  | some ds =>
    rw [e1] at ha
    dsimp only at ha
    split at ha
    case h_2 => exact ha.elim
    rename_i es h1
    split at ha
    case isFalse => exact ha.elim
    rename_i hall
    obtain ⟨a1, es', ws, hs1, hC1, hR1, nz1, nB1⟩ := r1.own i _ h1
    obtain ⟨ee1, hH1⟩ := hC1.toL
    rw [ee1] at hR1
    rw [hs0] at hs1
    cases hs1
    have rf := frzPs ps a.2 r1
    have hfi : (frzAll ps a.2)[i]? = some (some (true, .lst es)) := by rw [frz_other ps a.2 i hall]; exact h1
    have oi : Own σ (frzAll ps a.2) a0 := ⟨i, _, hfi, hs0⟩
    obtain ⟨_, es', ws', hs2, hC2, hR2, _, _⟩ := rf.own i _ hfi
    obtain ⟨ee2, hH2⟩ := hC2.toL
    rw [ee2] at hR2
    rw [hs0] at hs2
    cases hs2
    rw [hH1] at hH2
    cases hH2
    have zz : ∀ b, ((Z b ∨ (Own σ (frzAll ps a.2) b ∧ b ≠ a0)) ∨ b = a0) ↔ Av σ (frzAll ps a.2) Z b := fun b => by
      constructor
      · rintro ((z | z) | z)
        · exact .inl z
        · exact .inr z.1
        · subst z; exact .inr oi
      · rintro (z | z)
        · exact .inl (.inl z)
        · by_cases q : b = a0
          · exact .inr q
          · exact .inl (.inr ⟨z, q⟩)
    show spOf c true g (.ref a0 :: v1 ++ []) H1 Q E
    rw [List.append_nil]
    refine ⟨a0, ws, v1, es, ds, fun b => Z b ∨ (Own σ (frzAll ps a.2) b ∧ b ≠ a0), rfl, fun b z => ?_, fun z => ?_, hH1, ?_, ?_, ?_⟩
    · rcases z with z | z
      · exact rf.zd b z
      · obtain ⟨ys, e, _⟩ := rf.ownL z.1
        rw [e]; exact fun z => nomatch z
    · rcases z with z | z
      · exact nz1 z
      · exact z.2 rfl
    · exact hR2.avoid fun b z => .inl ((zz b).mp z)
    · exact (PkVs.frz r1 (fun _ h => h) pv1 e1).avoid fun b z => .inl ((zz b).mp z)
    · cases hg : g (.lst es :: ds) with
      | bad => rw [hg] at ha; exact ha.elim
      | ex kk d ρ' => rw [hg] at ha; exact ha.elim
      | ok r =>
        rw [hg] at ha
        intro v H' ws2 es2 hbut hout hH' hRL hN
        obtain ⟨r1', r2', r3'⟩ := r
        dsimp only at hout
        subst hout
        have ha : (O.ok (r1', r2', if (if r1' then r2'.calm else r2'.imm) && D.immL es2 then a.2.set i (some (true, D.lst es2)) else (frzAll ps a.2).set i (some (true, D.lst es2)))).sat _ _ := ha
        -- the result, given the slots
        have fin : ∀ ρ2, R c σ H1 ρ2 Z B → ρ2[i]? = some (some (true, D.lst es)) → (RepL c (fun b => Av σ ρ2 Z b ∨ (r1' = true ∧ v = .ref b)) H' ws2 es2) → (∀ b, Own σ ρ2 b → Own σ (frzAll ps a.2) b ∨ ((if r1' then r2'.calm else r2'.imm) = true)) →
            R c σ H' (ρ2.set i (some (true, D.lst es2))) Z B ∧ Val c σ H' (ρ2.set i (some (true, D.lst es2))) Z B r1' v r2' := fun ρ2 rr hi hrl hav => by
          have rc := rr.change hi hs0 hbut (.lst hH') (hrl.avoid fun b z => .inl (.inl z))
          refine ⟨rc, ?_⟩
          have os : ∀ b, Own σ (ρ2.set i (some (true, D.lst es2))) b ↔ Own σ ρ2 b := fun b => own_same hi
          cases r1' with
          | false =>
            by_cases q : r2'.imm = true
            · exact Rep.immA q hN
            · refine Rep.avoid (fun b z => .inl ((zz b).mpr ?_)) hN
              rcases z with z | z
              · exact .inl z
              · exact .inr ((hav b ((os b).mp z)).resolve_right q)
          | true =>
            obtain ⟨y, ds3, xs3, rfl, n1, n2, n3⟩ := hN
            have no : ¬ Own σ (ρ2.set i (some (true, D.lst es2))) y := fun z => by
              obtain ⟨ys, e, _⟩ := rr.ownL ((os y).mp z)
              rw [n1] at e; cases e
            refine ⟨y, ds3, xs3, rfl, n2, ?_, fun z => rr.zd y z n1, no, ?_, ?_⟩
            · by_cases q : r2'.calm = true
              · exact calm_rep q n2 n3
              · refine RepL.avoid (fun b z => .inl ?_) n3
                rcases z with (z | z) | z
                · exact .inl ((zz b).mpr (.inl z))
                · exact .inr z
                · exact .inl ((zz b).mpr (.inr ((hav b ((os b).mp z)).resolve_right q)))
            · cases q : B y with
              | none => rfl
              | some o => have := rr.base y o q; rw [n1] at this; cases this
            · have ya : y ≠ a0 := fun z => by rw [z, hH1] at n1; cases n1
              obtain ⟨uy, hy, _⟩ := n2.at
              have rm : R c σ (upd H1 y uy) ρ2 (fun b => Z b ∨ b = y) B := rr.more (same_new n1) n1 (by rw [upd_same]; exact fun z => nomatch z)
              refine rm.change hi hs0 (fun b o n e => ?_) (.lst hH') (hrl.avoid fun b z => .inl ?_)
              · by_cases q : b = y
                · subst q
                  rw [upd_same] at e
                  rw [← e]; exact hy
                · rw [upd_ne q] at e
                  exact hbut b o n e
              · rcases z with (z | z) | z
                · exact .inl (.inl z)
                · exact .inr ⟨rfl, by rw [z]⟩
                · exact .inl (.inr z)
        by_cases q : ((if r1' then r2'.calm else r2'.imm) && D.immL es2) = true
        · rw [if_pos q] at ha
          have q' := Bool.and_eq_true_iff.mp q
          obtain ⟨k1, k2⟩ := fin a.2 r1 h1 (RepL.immA q'.2 hRL) fun _ _ => .inr q'.1
          exact ha v H' k1 k2
        · rw [if_neg q] at ha
          obtain ⟨k1, k2⟩ := fin (frzAll ps a.2) rf hfi (hRL.avoid fun b z => .inl (z.imp (zz b).mpr id)) fun _ z => .inl z
          exact ha v H' k1 k2
theorem de_callIO {i : Nat} {o : Expr} (F : FnOk X.prog X.w X.K X.mg X.base CX k f fd qs (spOf c true g)) (hr : Room k X.A) (hg : Gl X x) (hm : X.mg x = some (.ref f)) (hk : PySem.W.keepIn X.K (.ref f) = true) (hb : Binds X.K fd qs []) (hx : Passes CX X E) (hv : PE X o (tVar i))
    (ha : DPs X c E es ps) (hs : starEach (o :: es) X.env = (false, eval o X.env) :: starEach es X.env := by rfl) (hdb : (x == ("__debug__" : Str)) = false := by decide) (hpl : (backTo pos (starEach es X.env)).any (·.1) = false := by rfl) :
    DE X c E (.Call (.Name x p) (o :: es) [] pos) (fCallIO g i ps) :=
  ⟨pe_imp (pe_call F hr hg hm hk hb .nil hx (pa_cons hv ha.pa hs) hdb hs hpl) fun _ _ _ h => lift_callIO h⟩
end
end U
namespace U
set_option autoImplicit false
open PySem PySem.Spec PyProof.Rows L2

/-! ### statements -/
inductive Fl where
  | nx | rt (fr : Bool) (d : D) | bk | ct
abbrev SF := En → O (Fl × En)
section
variable (c : Cc) (pr : Bool) (E : XK) (σ : St) (Z : Addr → Prop) (B : Hp) (T : Ends)
/-- what is wanted behind a statement; pr: the first slot's value stays -/
def SW : Fl × En → Prop := fun r => match r.1 with
  | .nx => ∀ σ' H', (pr = true → σ'[0]? = σ[0]?) → R c σ' H' r.2 Z B → T.nx σ' H'
  | .rt fr d => ∀ v σ' H', (pr = true → σ'[0]? = σ[0]?) → R c σ' H' r.2 Z B → Val c σ' H' r.2 Z B fr v d → T.rt v H'
  | .bk => ∀ σ' H', (pr = true → σ'[0]? = σ[0]?) → R c σ' H' r.2 Z B → T.bk σ' H'
  | .ct => ∀ σ' H', (pr = true → σ'[0]? = σ[0]?) → R c σ' H' r.2 Z B → T.ct σ' H'
def XWS : Str → D → En → Prop := fun k d ρ' => ∀ cls od σ' H', (pr = true → σ'[0]? = σ[0]?) → R c σ' H' ρ' Z B → XR c (Av σ' ρ' Z) H' k d cls od → E cls od H'
end
def liftS (c : Cc) (pr : Bool) (E : XK) (f : SF) : TS := fun T σ H => ∃ ρ Z B, R c σ H ρ Z B ∧ (f ρ).sat (SW c pr σ Z B T) (XWS c pr E σ Z B)
structure DS (X : Cx) (c : Cc) (pr : Bool) (E : XK) (st : Stmt) (f : SF) : Prop where
  ps : PS X st (liftS c pr E f)
structure DSs (X : Cx) (c : Cc) (pr : Bool) (E : XK) (st : List Stmt) (f : SF) : Prop where
  ps : PSs X st (liftS c pr E f)

section
variable {c : Cc} {pr : Bool} {E : XK} {σ σ1 : St} {Z : Addr → Prop} {B B' : Hp} {T : Ends}
theorem XWS.xw {k : Str} {d : D} {ρ : En} (h : XWS c pr E σ Z B k d ρ) : XW c E σ Z B k d ρ := fun cls od H' r x => h cls od σ H' (fun _ => rfl) r x
theorem SW.trans (e : pr = true → σ1[0]? = σ[0]?) {r : Fl × En} (h : SW c pr σ Z B T r) : SW c pr σ1 Z B T r := by
  obtain ⟨f, ρ⟩ := r
  cases f with
  | nx => exact fun σ' H' q => h σ' H' fun p => (q p).trans (e p)
  | rt fr d => exact fun v σ' H' q => h v σ' H' fun p => (q p).trans (e p)
  | bk => exact fun σ' H' q => h σ' H' fun p => (q p).trans (e p)
  | ct => exact fun σ' H' q => h σ' H' fun p => (q p).trans (e p)
theorem XWS.trans (e : pr = true → σ1[0]? = σ[0]?) {k : Str} {d : D} {ρ : En} (h : XWS c pr E σ Z B k d ρ) : XWS c pr E σ1 Z B k d ρ :=
  fun cls od σ' H' q => h cls od σ' H' fun p => (q p).trans (e p)
theorem Val.weak {H : Hp} {ρ : En} {fr : Bool} {v : V} {d : D} (hb : ∀ b o, B b = some o → B' b = some o) (h : Val c σ H ρ Z B' fr v d) : Val c σ H ρ Z B fr v d := by
  cases fr with
  | false => exact h
  | true =>
    obtain ⟨a, ds, xs, h1, h3, h4, h5, h6, h7, h8⟩ := h
    refine ⟨a, ds, xs, h1, h3, h4, h5, h6, ?_, h8.weak hb⟩
    cases q : B a with
    | none => rfl
    | some o => rw [hb a o q] at h7; cases h7
theorem SW.weak (hb : ∀ b o, B b = some o → B' b = some o) {r : Fl × En} (h : SW c pr σ Z B T r) : SW c pr σ Z B' T r := by
  obtain ⟨f, ρ⟩ := r
  cases f with
  | nx => exact fun σ' H' q R' => h σ' H' q (R'.weak hb)
  | rt fr d => exact fun v σ' H' q R' V' => h v σ' H' q (R'.weak hb) (V'.weak hb)
  | bk => exact fun σ' H' q R' => h σ' H' q (R'.weak hb)
  | ct => exact fun σ' H' q R' => h σ' H' q (R'.weak hb)
theorem XWS.weak (hb : ∀ b o, B b = some o → B' b = some o) {k : Str} {d : D} {ρ : En} (h : XWS c pr E σ Z B k d ρ) : XWS c pr E σ Z B' k d ρ :=
  fun cls od σ' H' q R' => h cls od σ' H' q (R'.weak hb)
theorem set_zero {σ : St} {i : Nat} {v : Option V} (h : i ≠ 0) : (σ.set i v)[0]? = σ[0]? := List.getElem?_set_ne h
end

def sNil : SF := fun ρ => .ok (.nx, ρ)
def sSeq (f g : SF) : SF := fun ρ => (f ρ).bind fun r => match r.1 with
  | .nx => g r.2
  | _ => .ok r
def sSet (i : Nat) (f : EF) : SF := fun ρ => (f ρ).bind fun r => .ok (.nx, r.2.2.set i (some (r.1, r.2.1)))
def sExp (f : EF) : SF := fun ρ => (f ρ).bind fun r => .ok (.nx, r.2.2)
def sRet (f : EF) : SF := fun ρ => (f ρ).bind fun r => .ok (.rt r.1 r.2.1, r.2.2)
def sRetN : SF := fun ρ => .ok (.rt false .non, ρ)
abbrev TF := En → O (Bool × En)
def sIf (t : TF) (f g : SF) : SF := fun ρ => (t ρ).bind fun r => if r.1 = true then f r.2 else g r.2
def sBk : SF := fun ρ => .ok (.bk, ρ)
def sCt : SF := fun ρ => .ok (.ct, ρ)

def liftT (c : Cc) (E : XK) (f : TF) : TT := fun σ H Q => ∃ ρ Z B, R c σ H ρ Z B ∧ (f ρ).sat (fun r => ∀ H', R c σ H' r.2 Z B → Q r.1 H') (XW c E σ Z B)
structure DT (X : Cx) (c : Cc) (E : XK) (e : Expr) (f : TF) : Prop where
  pt : PT X e (liftT c E f)

section
variable {X : Cx} {c : Cc} {pr : Bool} {E : XK} {st : Stmt} {sts : List Stmt} {f g : SF} {e : Expr} {h : EF} {pos : Pos}
theorem ds_nil : DSs X c pr E [] sNil := ⟨pss_imp pss_nil fun T σ H ⟨ρ, Z, B, r, q⟩ => q σ H (fun _ => rfl) r⟩
theorem ds_seq (h1 : DS X c pr E st f) (h2 : DSs X c pr E sts g) : DSs X c pr E (st :: sts) (sSeq f g) := by
  refine ⟨pss_imp (pss_cons h1.ps h2.ps) fun T σ H ⟨ρ, Z, B, r0, q⟩ => ⟨ρ, Z, B, r0, O.sat_then (o := f ρ) q (fun r hr => ?_) fun _ _ _ h => h⟩⟩
  obtain ⟨fl, ρ1⟩ := r
  cases fl with
  | nx => exact fun σ' H' p R' => ⟨ρ1, Z, B, R', O.sat_mono hr (fun _ h => h.trans p) fun _ _ _ h => h.trans p⟩
  | rt fr d => exact hr
  | bk => exact hr
  | ct => exact hr
theorem ds_one (h1 : DS X c pr E st f) : DSs X c pr E [st] f := ⟨pss_one h1.ps⟩
theorem ds_pass : DS X c pr E (.Pass pos) sNil := ⟨ps_imp ps_pass fun T σ H ⟨ρ, Z, B, r, q⟩ => q σ H (fun _ => rfl) r⟩
theorem ds_break : DS X c pr E (.Break pos) sBk := ⟨ps_imp ps_break fun T σ H ⟨ρ, Z, B, r, q⟩ => q σ H (fun _ => rfl) r⟩
theorem ds_continue : DS X c pr E (.Continue pos) sCt := ⟨ps_imp ps_continue fun T σ H ⟨ρ, Z, B, r, q⟩ => q σ H (fun _ => rfl) r⟩
/-- a value stored in a slot -/
theorem lift_set {i : Nat} (hp : pr = true → i ≠ 0) {T : Ends} {σ : St} {H : Hp} (q : liftS c pr E (sSet i h) T σ H) : tAsg (liftE c E h) (gName i) T σ H := by
  obtain ⟨ρ, Z, B, r0, q⟩ := q
  refine ⟨ρ, Z, B, r0, O.sat_then (o := h ρ) q (fun r hr v H' R' V' => ?_) fun _ _ _ h => h.xw⟩
  exact hr _ H' (fun p => set_zero (hp p)) (R'.assign V' i)
theorem ds_set {i : Nat} {x : Str} {pos' : Pos} (he : DE X c E e h) (hN : X.N.Nodup) (hi : X.N[i]? = some x) (hx : Loc X.env.scope x) (hp : pr = true → i ≠ 0) (hs : swapsWith e (some (.Name x pos')) pos.line X.env = pure false := by rfl)
    (hf : X.fn x = true ∨ X.env.scope.names.lookup x = some .local := by first | exact .inl rfl | exact .inr rfl | assumption) : DS X c pr E (.Assign [.Name x pos'] e pos) (sSet i h) :=
  ⟨ps_imp (ps_set hN hi hx he.pe hs hf) fun _ _ _ q => lift_set hp q⟩
theorem ds_expr (he : DE X c E e h) (hs : swapsWith e none pos.line X.env = pure false := by rfl) : DS X c pr E (.Expr e pos) (sExp h) := by
  refine ⟨ps_imp (ps_expr he.pe hs) fun T σ H ⟨ρ, Z, B, r0, q⟩ => ⟨ρ, Z, B, r0, O.sat_then (o := h ρ) q (fun r hr v H' R' V' => ?_) fun _ _ _ h => h.xw⟩⟩
  exact hr σ H' (fun _ => rfl) R'
theorem ds_doc {x : Str} {j : Nat} {pos' : Pos} : DS X c pr E (.Expr (.Constant (.str x) j pos) pos') sNil := ⟨ps_imp ps_doc fun T σ H ⟨ρ, Z, B, r, q⟩ => q σ H (fun _ => rfl) r⟩
theorem ds_ret (he : DE X c E e h) : DS X c pr E (.Return (some e) pos) (sRet h) := by
  refine ⟨ps_imp (ps_ret he.pe) fun T σ H ⟨ρ, Z, B, r0, q⟩ => ⟨ρ, Z, B, r0, O.sat_then (o := h ρ) q (fun r hr v H' R' V' => ?_) fun _ _ _ h => h.xw⟩⟩
  exact hr v σ H' (fun _ => rfl) R' V'
theorem ds_retN : DS X c pr E (.Return none pos) sRetN := ⟨ps_imp ps_retN fun T σ H ⟨ρ, Z, B, r, q⟩ => q .non σ H (fun _ => rfl) r .non⟩
theorem ds_if {t : TF} {s1 s2 : List Stmt} (ht : DT X c E e t) (h1 : DSs X c pr E s1 f) (h2 : DSs X c pr E s2 g) : DS X c pr E (.If e s1 s2 pos) (sIf t f g) := by
  refine ⟨ps_imp (ps_if ht.pt h1.ps h2.ps) fun T σ H ⟨ρ, Z, B, r0, q⟩ => ⟨ρ, Z, B, r0, O.sat_then (o := t ρ) q (fun r hr H' R' => ?_) fun _ _ _ h => h.xw⟩⟩
  obtain ⟨b, ρ1⟩ := r
  cases b with
  | true => rw [if_pos rfl]; exact ⟨ρ1, Z, B, R', hr⟩
  | false => rw [if_neg Bool.false_ne_true]; exact ⟨ρ1, Z, B, R', hr⟩
end

/-! ### tests -/
def tOf (p : Pk) : TF := fun ρ => (p.ev ρ).bind fun a => match p.get a.1 a.2 with
  | some (.bl b) => .ok (b, a.2)
  | _ => .bad
def tOp2 (g : D → D → Option Bool) (p q : Pk) : TF := fun ρ => (p.ev ρ).bind fun a => (q.ev a.2).bind fun b => match p.get a.1 b.2, q.get b.1 b.2 with
  | some x, some y => match g x y with
    | some k => .ok (k, b.2)
    | none => .bad
  | _, _ => .bad
def tNo (t : TF) : TF := fun ρ => (t ρ).bind fun r => .ok (!r.1, r.2)
def tAn (t u : TF) : TF := fun ρ => (t ρ).bind fun r => if r.1 = true then u r.2 else .ok (false, r.2)
def tOr' (t u : TF) : TF := fun ρ => (t ρ).bind fun r => if r.1 = true then .ok (true, r.2) else u r.2
/-- an operation that tells a bool -/
def blO (g : D → D → Option Bool) : D → D → Option (Bool × D) := fun x y => (g x y).map fun b => (false, .bl b)
def fIf (t : TF) (f g : EF) : EF := fun ρ => (t ρ).bind fun r => if r.1 = true then f r.2 else g r.2
/-- and, or, not as values (bools) -/
def fOf (t : TF) : EF := fun ρ => (t ρ).bind fun r => .ok (false, .bl r.1, r.2)
structure DW (X : Cx) (c : Cc) (E : XK) (e : Expr) (f : TF) : Prop where
  pw : PW X e (liftT c E f)
section
variable {X : Cx} {c : Cc} {E : XK} {e a b : Expr} {rest : List Expr} {t u : TF} {p q : Pk} {pos : Pos}
theorem val_bl {σ : St} {H : Hp} {ρ : En} {Z : Addr → Prop} {B : Hp} {v : V} {k : Bool} (h : Val c σ H ρ Z B false v (.bl k)) : v = .bl k := by
  have h : Rep c (Av σ ρ Z) H v (.bl k) := h
  cases h
  rfl
theorem repT_bl {A : Addr → Prop} {H : Hp} {v : V} {k : Bool} (h : RepT c A H v (.bl k)) : v = .bl k := by
  rcases h with h | ⟨_, _, _, _, e, _⟩
  · cases h; rfl
  · cases e
theorem dt_of (h : DP X c E e p) (he : ∀ whole, isTrue e X.env whole = (do let v ← whole; standAt e.pos; holding [v] (truthy v)) := by intro _; rfl) : DT X c E e (tOf p) := by
  refine ⟨pt_imp (pt_val h.pe he) fun σ H Q ⟨ρ, Z, B, r0, q⟩ => ⟨ρ, Z, B, r0, O.sat_then (o := p.ev ρ) q (fun r hr v H' R' V' => ?_) fun _ _ _ h => h⟩⟩
  split at hr
  case h_2 => exact hr.elim
  rename_i k e1
  have e2 := repT_bl (V'.fin R' e1)
  subst e2
  exact ⟨k, rfl, hr H' R'⟩
theorem lift_t2 {g : D → D → Option Bool} {r : R2} (hr : GS2 c (blO g) r) {σ : St} {H : Hp} {Q : Bool → Hp → Prop} (h : liftT c E (tOp2 g p q) σ H Q) : tTest (tOp r (liftP c E p) (liftP c E q)) σ H Q := by
  refine lift_op2 (E := E) hr ?_
  obtain ⟨ρ, Z, B, r0, h⟩ := h
  refine ⟨ρ, Z, B, r0, ?_⟩
  unfold tOp2 at h
  unfold op2
  cases e1 : p.ev ρ with
  | bad => rw [e1] at h; exact h
  | ex k d ρ' => rw [e1] at h; exact h
  | ok a =>
    rw [e1] at h
    have h : ((q.ev a.2).bind _).sat _ _ := h
    show ((q.ev a.2).bind _).sat _ _
    cases e2 : q.ev a.2 with
    | bad => rw [e2] at h; exact h
    | ex k d ρ' => rw [e2] at h; exact h
    | ok b =>
      rw [e2] at h
      have h : O.sat _ _ (match p.get a.1 b.2, q.get b.1 b.2 with
        | some x, some y => match g x y with
          | some k => O.ok (k, b.2)
          | none => .bad
        | _, _ => .bad) := h
      show (get2 (blO g) (p.get a.1 b.2) (q.get b.1 b.2) b.2).sat _ _
      unfold get2 blO
      cases hx : p.get a.1 b.2 with
      | none => rw [hx] at h; exact h
      | some x =>
        rw [hx] at h
        cases hy : q.get b.1 b.2 with
        | none => rw [hy] at h; exact h
        | some y =>
          rw [hy] at h
          dsimp only at h ⊢
          cases hg : g x y with
          | none => rw [hg] at h; exact h
          | some k => rw [hg] at h; exact fun v H' R' V' => ⟨k, val_bl V', h H' R'⟩
theorem dt_op2 {op : CmpOp} {g : D → D → Option Bool} {r : R2} (ho : OpR X (compareOp op) r) (hr : GS2 c (blO g) r) (ha : DP X c E a p) (hb : DP X c E b q) (hm : behindInMarks op b = false) : DT X c E (.Compare a [op] [b] pos) (tOp2 g p q) :=
  ⟨pt_imp (pt_cmpR ho ha.pe hb.pe hm) fun _ _ _ h => lift_t2 hr h⟩
theorem de_cmp {op : CmpOp} {g : D → D → Option Bool} {r : R2} (ho : OpR X (compareOp op) r) (hr : GS2 c (blO g) r) (ha : DP X c E a p) (hb : DP X c E b q) (hm : behindInMarks op b = false) : DE X c E (.Compare a [op] [b] pos) (op2 (blO g) p q) :=
  de_op2 hr ha hb fun h1 h2 => pe_cmpR ho h1 h2 hm
theorem dt_not (h : DT X c E a t) : DT X c E (.UnaryOp .Not a pos) (tNo t) := by
  refine ⟨pt_imp (pt_not h.pt) fun σ H Q ⟨ρ, Z, B, r0, q⟩ => ⟨ρ, Z, B, r0, O.sat_then (o := t ρ) q (fun r hr => hr) fun _ _ _ h => h⟩⟩
theorem dt_bool {op : BoolOp} {es : List Expr} (h : DW X c E (.BoolOp op es pos) t) : DT X c E (.BoolOp op es pos) t := ⟨h.pw.pt⟩
theorem dw_and1 (h : DT X c E a t) : DW X c E (.BoolOp .And [a] pos) t := ⟨pw_and1 h.pt⟩
theorem dw_or1 (h : DT X c E a t) : DW X c E (.BoolOp .Or [a] pos) t := ⟨pw_or1 h.pt⟩
theorem dw_and (ha : DT X c E a t) (hb : DW X c E (.BoolOp .And (b :: rest) pos) u) : DW X c E (.BoolOp .And (a :: b :: rest) pos) (tAn t u) := by
  refine ⟨pw_imp (pw_and ha.pt hb.pw) fun σ H Q ⟨ρ, Z, B, r0, q⟩ => ⟨ρ, Z, B, r0, O.sat_then (o := t ρ) q (fun r hr H' R' => ?_) fun _ _ _ h => h⟩⟩
  obtain ⟨k, ρ1⟩ := r
  cases k with
  | true => rw [if_pos rfl]; exact ⟨ρ1, Z, B, R', hr⟩
  | false => rw [if_neg Bool.false_ne_true]; exact hr H' R'
theorem dw_or (ha : DT X c E a t) (hb : DW X c E (.BoolOp .Or (b :: rest) pos) u) : DW X c E (.BoolOp .Or (a :: b :: rest) pos) (tOr' t u) := by
  refine ⟨pw_imp (pw_or ha.pt hb.pw) fun σ H Q ⟨ρ, Z, B, r0, q⟩ => ⟨ρ, Z, B, r0, O.sat_then (o := t ρ) q (fun r hr H' R' => ?_) fun _ _ _ h => h⟩⟩
  obtain ⟨k, ρ1⟩ := r
  cases k with
  | true => rw [if_pos rfl]; exact hr H' R'
  | false => rw [if_neg Bool.false_ne_true]; exact ⟨ρ1, Z, B, R', hr⟩
theorem de_if {f g : EF} (ht : DT X c E e t) (ha : DE X c E a f) (hb : DE X c E b g) : DE X c E (.IfExp e a b pos) (fIf t f g) := by
  refine ⟨pe_imp (pe_ifExp ht.pt ha.pe hb.pe) fun σ H Q ⟨ρ, Z, B, r0, q⟩ => ⟨ρ, Z, B, r0, O.sat_then (o := t ρ) q (fun r hr H' R' => ?_) fun _ _ _ h => h⟩⟩
  obtain ⟨k, ρ1⟩ := r
  cases k with
  | true => rw [if_pos rfl]; exact ⟨ρ1, Z, B, R', hr⟩
  | false => rw [if_neg Bool.false_ne_true]; exact ⟨ρ1, Z, B, R', hr⟩
/-- and, or as values: all parts bools -/
def fAnd (p : Pk) (g : EF) : EF := fun ρ => (tOf p ρ).bind fun r => if r.1 = true then g r.2 else .ok (false, .bl false, r.2)
def fOr (p : Pk) (g : EF) : EF := fun ρ => (tOf p ρ).bind fun r => if r.1 = true then .ok (false, .bl true, r.2) else g r.2
def fNot (p : Pk) : EF := fun ρ => (tOf p ρ).bind fun r => .ok (false, .bl (!r.1), r.2)
theorem de_one {op : BoolOp} {f : EF} (h : DE X c E a f) : DE X c E (.BoolOp op [a] pos) f := ⟨pe_one h.pe⟩
theorem sat_of {ρ : En} {k : Bool × En → O (Bool × D × En)} {P : Bool × D × En → Prop} {Qx : Str → D → En → Prop} (h : ((tOf p ρ).bind k).sat P Qx) : (p.ev ρ).sat (fun a => ∃ b, p.get a.1 a.2 = some (.bl b) ∧ (k (b, a.2)).sat P Qx) Qx := by
  unfold tOf at h
  cases e1 : p.ev ρ with
  | bad => rw [e1] at h; exact h
  | ex k d ρ' => rw [e1] at h; exact h
  | ok a =>
    rw [e1] at h
    have h : (O.bind (match p.get a.1 a.2 with
      | some (.bl b) => .ok (b, a.2)
      | _ => .bad) k).sat P Qx := h
    split at h
    case h_2 => exact h.elim
    rename_i b e
    exact ⟨b, e, h⟩
theorem de_and {g : EF} (ha : DP X c E a p) (hb : DE X c E (.BoolOp .And (b :: rest) pos) g) : DE X c E (.BoolOp .And (a :: b :: rest) pos) (fAnd p g) := by
  refine ⟨pe_imp (pe_and ha.pe hb.pe) fun σ H Q ⟨ρ, Z, B, r0, q⟩ => ⟨ρ, Z, B, r0, O.sat_mono (sat_of q) (fun r hr v H' R' V' => ?_) fun _ _ _ h => h⟩⟩
  obtain ⟨k, e1, hr⟩ := hr
  have e2 := repT_bl (V'.fin R' e1)
  subst e2
  refine ⟨k, rfl, ?_⟩
  cases k with
  | true => rw [if_pos rfl]; exact ⟨r.2, Z, B, R', hr⟩
  | false => rw [if_neg Bool.false_ne_true]; exact hr _ H' R' (.bl false)
theorem de_or {g : EF} (ha : DP X c E a p) (hb : DE X c E (.BoolOp .Or (b :: rest) pos) g) : DE X c E (.BoolOp .Or (a :: b :: rest) pos) (fOr p g) := by
  refine ⟨pe_imp (pe_or ha.pe hb.pe) fun σ H Q ⟨ρ, Z, B, r0, q⟩ => ⟨ρ, Z, B, r0, O.sat_mono (sat_of q) (fun r hr v H' R' V' => ?_) fun _ _ _ h => h⟩⟩
  obtain ⟨k, e1, hr⟩ := hr
  have e2 := repT_bl (V'.fin R' e1)
  subst e2
  refine ⟨k, rfl, ?_⟩
  cases k with
  | true => rw [if_pos rfl]; exact hr _ H' R' (.bl true)
  | false => rw [if_neg Bool.false_ne_true]; exact ⟨r.2, Z, B, R', hr⟩
theorem de_not (ha : DP X c E a p) : DE X c E (.UnaryOp .Not a pos) (fNot p) := by
  refine ⟨pe_imp (pe_not ha.pe) fun σ H Q ⟨ρ, Z, B, r0, q⟩ => ⟨ρ, Z, B, r0, O.sat_mono (sat_of q) (fun r hr v H' R' V' => ?_) fun _ _ _ h => h⟩⟩
  obtain ⟨k, e1, hr⟩ := hr
  have e2 := repT_bl (V'.fin R' e1)
  subst e2
  exact ⟨k, rfl, hr _ H' R' (.bl _)⟩
end

/-! ### targets -/
abbrev Tg := D → En → Option En
/-- only the slots tv are stored -/
def Only (tv : List Nat) (σ σ' : St) : Prop := σ'.length = σ.length ∧ ∀ j, j ∉ tv → σ'[j]? = σ[j]?
def liftG (c : Cc) (tv : List Nat) (t : Tg) : TG := fun v σ H Q => ∃ ρ Z B d, R c σ H ρ Z B ∧ Rep c (Av σ ρ Z) H v d ∧ ∃ ρ', t d ρ = some ρ' ∧ ∀ σ' H', Only tv σ σ' → R c σ' H' ρ' Z B → (∀ b o, H b = some o → H' b = some o) → Q σ' H'
structure DG (X : Cx) (c : Cc) (tv : List Nat) (e : Expr) (t : Tg) : Prop where
  pg : PG X e (liftG c tv t)
def gN (i : Nat) : Tg := fun d ρ => some (ρ.set i (some (false, d)))
def gTs : List Tg → List D → En → Option En
  | [], [], ρ => some ρ
  | t :: ts, d :: ds, ρ => match t d ρ with
    | some ρ' => gTs ts ds ρ'
    | none => none
  | _, _, _ => none
def gT (ts : List Tg) : Tg := fun d ρ => match d with
  | .tup ds => gTs ts ds ρ
  | _ => none
inductive DGs (X : Cx) (c : Cc) : List Nat → List Expr → List Tg → Prop
  | nil : DGs X c [] [] []
  | cons {e : Expr} {t : Tg} {tv tw : List Nat} {es : List Expr} {ts : List Tg} : DG X c tv e t → (hs : (assignEach (e :: es) X.env).map (·.2) = assign e X.env :: (assignEach es X.env).map (·.2)) → DGs X c tw es ts → DGs X c (tv ++ tw) (e :: es) (t :: ts)
section
variable {X : Cx} {c : Cc} {E : XK} {e : Expr} {es : List Expr} {t : Tg} {ts : List Tg} {pos : Pos} {tv tw : List Nat}
theorem Only.trans {σ σ1 σ2 : St} (a : Only tv σ σ1) (b : Only tw σ1 σ2) : Only (tv ++ tw) σ σ2 := ⟨b.1.trans a.1, fun j h => (b.2 j fun z => h (List.mem_append_right _ z)).trans (a.2 j fun z => h (List.mem_append_left _ z))⟩
theorem dg_name {i : Nat} {x : Str} (hN : X.N.Nodup) (hi : X.N[i]? = some x) (hx : Loc X.env.scope x) (hf : X.fn x = true ∨ X.env.scope.names.lookup x = some .local := by first | exact .inl rfl | exact .inr rfl | assumption) :
    DG X c [i] (.Name x pos) (gN i) := by
  refine ⟨pg_imp (pg_name hN hi hx hf) fun v σ H Q ⟨ρ, Z, B, d, r0, rv, ρ', e, q⟩ => ?_⟩
  have e' : ρ.set i (some (false, d)) = ρ' := Option.some.inj e
  subst e'
  exact q _ H ⟨List.length_set, fun j h => List.getElem?_set_ne fun z => h (by rw [z]; exact List.mem_cons_self)⟩ (r0.assign (fr := false) rv i) fun _ _ h => h
theorem dgs_pgs : ∀ {tv : List Nat} {es : List Expr} {ts : List Tg}, DGs X c tv es ts → PGs X es (fun vs σ H Q => ∃ ρ Z B ds, R c σ H ρ Z B ∧ RepL c (Av σ ρ Z) H vs ds ∧ ∃ ρ', gTs ts ds ρ = some ρ' ∧ ∀ σ' H', Only tv σ σ' → R c σ' H' ρ' Z B → (∀ b o, H b = some o → H' b = some o) → Q σ' H') := by
  intro tv es ts h
  induction h with
  | nil =>
    refine ⟨fun pins s σ H vs us Q I r q => pgs_nil.run pins s σ H vs us Q I r ?_⟩
    obtain ⟨ρ, Z, B, ds, r0, rv, ρ', e, q⟩ := q
    cases rv with
    | nil =>
      have e' : ρ = ρ' := Option.some.inj e
      subst e'
      exact ⟨rfl, q σ H ⟨rfl, fun _ _ => rfl⟩ r0 fun _ _ h => h⟩
    | cons _ _ => cases e
  | cons h1 hs _ ih =>
    refine ⟨fun pins s σ H vs us Q I r q => (pgs_cons h1.pg ih hs).run pins s σ H vs us Q I r ?_⟩
    obtain ⟨ρ, Z, B, ds, r0, rv, ρ', e, q⟩ := q
    cases rv with
    | nil => cases e
    | @cons v vs d ds rv1 rv2 =>
      unfold gTs at e
      split at e
      case h_2 => cases e
      rename_i ρ1 e1
      refine ⟨v, vs, rfl, ρ, Z, hull σ ρ H, d, r0.strong, rv1, ρ1, e1, fun σ1 H1 p1 R1 k1 => ?_⟩
      refine ⟨ρ1, Z, B, ds, R1.weak r0.hull_le, r0.keepL' R1 (fun _ _ h => h) (fun _ => .inl) rv2, ρ', e, fun σ2 H2 p2 R2 k2 => ?_⟩
      exact q σ2 H2 (p1.trans p2) R2 fun b o h => k2 b o (k1 b o h)
theorem dg_tup {k n : Nat} (hK : X.K = c.K) (hc : X.calm = true) (h : DGs X c tv es ts) (hn : (assignEach es X.env).length = n := by rfl) (hl : ts.length = n := by rfl) (hst : (assignEach es X.env).findIdx? (·.1) = none := by rfl) : DG X c tv (.Tuple es k pos) (gT ts) := by
  refine ⟨pg_imp (pg_tup hc (dgs_pgs h) hn hst) fun v σ H Q ⟨ρ, Z, B, d, r0, rv, ρ', e, q⟩ => ?_⟩
  unfold gT at e
  split at e
  case h_2 => cases e
  rename_i ds
  cases rv with
  | @tup a xs ds h1 h2 =>
    refine ⟨a, xs, rfl, by rw [hK]; exact h1, ?_, ρ, Z, B, ds, r0, h2, ρ', e, q⟩
    have : ∀ (ts : List Tg) (ds : List D) (ρ ρ' : En), gTs ts ds ρ = some ρ' → ds.length = ts.length := by
      intro ts
      induction ts with
      | nil => intro ds ρ ρ' e; cases ds with
        | nil => rfl
        | cons _ _ => cases e
      | cons t ts ih => intro ds ρ ρ' e; cases ds with
        | nil => cases e
        | cons d ds =>
          unfold gTs at e
          cases e1 : t d ρ with
          | none => rw [e1] at e; cases e
          | some ρ1 => rw [e1] at e; simp [ih ds ρ1 ρ' e]
    rw [h2.len, this ts ds ρ ρ' e, hl]
end
/-- target = value -/
def sAsg (t : Tg) (f : EF) : SF := fun ρ => (f ρ).bind fun r => match t r.2.1 r.2.2 with
  | some ρ' => .ok (.nx, ρ')
  | none => .bad
section
variable {X : Cx} {c : Cc} {pr : Bool} {E : XK} {e tg : Expr} {t : Tg} {f : EF} {pos : Pos} {tv : List Nat}
theorem ds_asg (he : DE X c E e f) (hg : DG X c tv tg t) (hp : pr = true → 0 ∉ tv) (hs : swapsWithSole [tg] e pos.line X.env = pure false := by rfl) (hw : swappedStores [tg] e X.env = pure none := by rfl)
    (h1 : (assignEach [tg] X.env).map (·.2) = [assign tg X.env] := by rfl) : DS X c pr E (.Assign [tg] e pos) (sAsg t f) := by
  refine ⟨ps_imp (ps_asg he.pe hg.pg hs hw h1) fun T σ H ⟨ρ, Z, B, r0, q⟩ => ⟨ρ, Z, B, r0, O.sat_then (o := f ρ) q (fun r hr v H' R' V' => ?_) fun _ _ _ h => h.xw⟩⟩
  split at hr
  case h_2 => exact hr.elim
  rename_i ρ' e1
  exact ⟨r.2.2, Z, B, r.2.1, R', V'.rep, ρ', e1, fun σ2 H2 p R2 _ => hr σ2 H2 (fun q => p.2 0 (hp q)) R2⟩
end

/-! ### a, b = x, y with plain local names -/
def parF : List (Nat × EF) → En → O En
  | [], ρ => .ok ρ
  | (i, f) :: r, ρ => (f ρ).bind fun a => (parF r a.2.2).bind fun ρ2 => .ok (ρ2.set i (some (a.1, a.2.1)))
def sPar (r : List (Nat × EF)) : SF := fun ρ => (parF r ρ).bind fun ρ' => .ok (.nx, ρ')
def parT (c : Cc) (E : XK) : List (Nat × EF) → TA
  | [] => tNil
  | (_, f) :: r => tCons (liftE c E f) (parT c E r)
def storeP : St → List (Nat × EF) → List V → St
  | σ, (i, _) :: r, v :: vs => (storeP σ r vs).set i (some v)
  | σ, _, _ => σ
section
variable {X : Cx} {c : Cc} {pr : Bool} {E : XK} {pos : Pos}
theorem par_ok : ∀ (r : List (Nat × EF)) {σ : St} {H : Hp} {ρ : En} {Z : Addr → Prop} {B : Hp} {P : St → Hp → Prop}, R c σ H ρ Z B →
    (parF r ρ).sat (fun ρ' => ∀ σ' H', R c σ' H' ρ' Z B → P σ' H') (XW c E σ Z B) → parT c E r σ H fun vs H2 => vs.length = r.length ∧ P (storeP σ r vs) H2
  | [], σ, H, ρ, Z, B, P, r0, q => ⟨rfl, q σ H r0⟩
  | (i, f) :: r, σ, H, ρ, Z, B, P, r0, q => by
    refine ⟨ρ, Z, B, r0, O.sat_then (o := f ρ) q (fun a ha v H1 R1 V1 => ?_) fun _ _ _ h => h⟩
    obtain ⟨fr, d, ρ1⟩ := a
    have done : ∀ {P' : St → Hp → Prop}, parT c E r σ H1 (fun vs H2 => vs.length = r.length ∧ P' (storeP σ r vs) H2) → (∀ vs H2, P' (storeP σ r vs) H2 → P ((storeP σ r vs).set i (some v)) H2) →
        parT c E r σ H1 (fun vs H2 => (v :: vs).length = r.length + 1 ∧ P (storeP σ ((i, f) :: r) (v :: vs)) H2) := by
      intro P' h k
      have mono : ∀ (r : List (Nat × EF)) (σ : St) (H : Hp) (Q Q' : List V → Hp → Prop), (∀ vs H, Q vs H → Q' vs H) → parT c E r σ H Q → parT c E r σ H Q' := by
        intro r
        induction r with
        | nil => intro σ H Q Q' hq h; exact hq _ _ h
        | cons a r ih =>
          intro σ H Q Q' hq h
          obtain ⟨ρ, Z, B, r0, h⟩ := h
          exact ⟨ρ, Z, B, r0, O.sat_mono h (fun x hx v H' R' V' => ih σ H' _ _ (fun vs H q => hq _ _ q) (hx v H' R' V')) fun _ _ _ h => h⟩
      exact mono r σ H1 _ _ (fun vs H2 q => ⟨by simp [q.1], k vs H2 q.2⟩) h
    cases fr with
    | false =>
      refine done (P' := fun σ' H2 => P (σ'.set i (some v)) H2) (par_ok (P := fun σ' H2 => P (σ'.set i (some v)) H2) r R1.strong (O.sat_then ha (fun ρ2 h2 σ2 H2 R2 => ?_) fun _ _ _ h => XW.weak R1.hull_le h)) fun _ _ h => h
      exact h2 _ H2 ((R2.weak R1.hull_le).assign (fr := false) (R1.keepV' R2 (fun _ _ h => h) (fun _ => .inl) V1) i)
    | true =>
      obtain ⟨a, ds, xs, rfl, h3, h4, h5, h6, h7, r8⟩ := V1
      have hbb := r8.hull_le
      refine done (P' := fun σ' H2 => P (σ'.set i (some (.ref a))) H2) (par_ok (P := fun σ' H2 => P (σ'.set i (some (.ref a))) H2) r r8.strong (O.sat_then ha (fun ρ2 h2 σ2 H2 R2 => ?_) fun _ _ _ h => ?_)) fun _ _ h => h
      · refine h2 _ H2 (R.assign ((R2.weak hbb).less fun b z => .inl z) (fr := true) (v := .ref a) ?_ i)
        refine ⟨a, ds, xs, rfl, h3.move fun u e => R2.base a _ (by rw [hull_not h6]; exact e), r8.keepL' R2 (fun _ _ h => h) (fun _ => .inl) h4, h5, fun z => ?_, h7, R2.weak hbb⟩
        exact (R2.ownB z).2 (.inr rfl)
      · intro cls od H' R' x
        refine h cls od H' ((R'.weak hbb).less fun b z => .inl z) ?_
        obtain ⟨C, dd, v, k1, k2, k3, k4, k5⟩ := x
        exact ⟨C, dd, v, k1, k2, k3, k4, k5.avoid fun b z => .inl (z.imp .inl id)⟩
theorem storeP_zero : ∀ {r : List (Nat × EF)} {vs : List V} {σ : St}, (∀ p ∈ r, p.1 ≠ 0) → (storeP σ r vs)[0]? = σ[0]?
  | [], vs, σ, _ => by cases vs <;> rfl
  | (i, f) :: r, [], σ, _ => rfl
  | (i, f) :: r, v :: vs, σ, h => by
    show ((storeP σ r vs).set i (some v))[0]? = _
    rw [set_zero (h _ List.mem_cons_self)]
    exact storeP_zero fun p hp => h p (List.mem_cons_of_mem _ hp)
theorem sPar_sat {r : List (Nat × EF)} {T : Ends} {σ : St} {H : Hp} (hp : pr = true → ∀ p ∈ r, p.1 ≠ 0) (q : liftS c pr E (sPar r) T σ H) : parT c E r σ H fun vs H2 => vs.length = r.length ∧ T.nx (storeP σ r vs) H2 := by
  obtain ⟨ρ, Z, B, r0, q⟩ := q
  have h := par_ok r (P := fun σ' H2 => (pr = true → σ'[0]? = σ[0]?) → T.nx σ' H2) r0 (O.sat_then (o := parF r ρ) q (fun ρ' h σ' H' R' p => h σ' H' p R') fun _ _ _ h => h.xw)
  have mono : ∀ (r : List (Nat × EF)) (σ : St) (H : Hp) (Q Q' : List V → Hp → Prop), (∀ vs H, Q vs H → Q' vs H) → parT c E r σ H Q → parT c E r σ H Q' := by
    intro r
    induction r with
    | nil => intro σ H Q Q' hq h; exact hq _ _ h
    | cons a r ih =>
      intro σ H Q Q' hq h
      obtain ⟨ρ, Z, B, r0, h⟩ := h
      exact ⟨ρ, Z, B, r0, O.sat_mono h (fun x hx v H' R' V' => ih σ H' _ _ (fun vs H q => hq _ _ q) (hx v H' R' V')) fun _ _ _ h => h⟩
  exact mono r σ H _ _ (fun vs H2 q => ⟨q.1, q.2 fun p => storeP_zero (hp p)⟩) h
theorem ds_par2 {i j : Nat} {x y : Str} {a b : Expr} {f g : EF} {px py pt : Pos} {kt k2 : Nat} {pt2 : Pos} (hc : X.calm = true) (hN : X.N.Nodup) (hi : X.N[i]? = some x) (hj : X.N[j]? = some y) (hij : i ≠ j)
    (hx : X.env.scope.names.lookup x = some .local) (hy : X.env.scope.names.lookup y = some .local) (ha : DE X c E a f) (hb : DE X c E b g) (hp : pr = true → i ≠ 0 ∧ j ≠ 0)
    (hw : swappedStores [.Tuple [.Name x px, .Name y py] kt pt] (.Tuple [a, b] k2 pt2) X.env = pure (some [x, y]))
    (hs : swapsWithSole [.Tuple [.Name x px, .Name y py] kt pt] (.Tuple [a, b] k2 pt2) pos.line X.env = pure false := by rfl)
    (hs1 : starEach [a, b] X.env = (false, eval a X.env) :: starEach [b] X.env := by rfl) (hs2 : starEach [b] X.env = (false, eval b X.env) :: starEach [] X.env := by rfl) :
    DS X c pr E (.Assign [.Tuple [.Name x px, .Name y py] kt pt] (.Tuple [a, b] k2 pt2) pos) (sPar [(i, f), (j, g)]) := by
  refine ⟨ps_imp (ps_par hc hN hi hj hij hx hy (pa_cons ha.pe (pa_cons hb.pe pa_nil hs2) hs1) hw hs) fun T σ H q => ?_⟩
  have h := sPar_sat (fun p => fun p' hp' => by
    rcases List.mem_cons.mp hp' with e | hp'
    · rw [e]; exact (hp p).1
    · rw [List.mem_singleton.mp hp']; exact (hp p).2) q
  obtain ⟨ρ, Z, B, r0, h⟩ := h
  refine ⟨ρ, Z, B, r0, O.sat_mono h (fun x hx v H1 R1 V1 => ?_) fun _ _ _ h => h⟩
  obtain ⟨ρ1, Z1, B1, r1, h1⟩ := hx v H1 R1 V1
  refine ⟨ρ1, Z1, B1, r1, O.sat_mono h1 (fun x hx w H2 R2 V2 => ?_) fun _ _ _ h => h⟩
  have h3 := (hx w H2 R2 V2).2
  refine ⟨v, w, rfl, ?_⟩
  rw [List.set_comm _ _ hij]
  exact h3
theorem ds_par3 {i j l : Nat} {x y z : Str} {a b d : Expr} {f g g3 : EF} {px py pz pt : Pos} {kt k2 : Nat} {pt2 : Pos} (hc : X.calm = true) (hN : X.N.Nodup) (hi : X.N[i]? = some x) (hj : X.N[j]? = some y) (hl : X.N[l]? = some z) (hij : i ≠ j) (hil : i ≠ l) (hjl : j ≠ l)
    (hx : X.env.scope.names.lookup x = some .local) (hy : X.env.scope.names.lookup y = some .local) (hz : X.env.scope.names.lookup z = some .local) (ha : DE X c E a f) (hb : DE X c E b g) (hd : DE X c E d g3) (hp : pr = true → i ≠ 0 ∧ j ≠ 0 ∧ l ≠ 0)
    (hw : swappedStores [.Tuple [.Name x px, .Name y py, .Name z pz] kt pt] (.Tuple [a, b, d] k2 pt2) X.env = pure (some [x, y, z]))
    (hs : swapsWithSole [.Tuple [.Name x px, .Name y py, .Name z pz] kt pt] (.Tuple [a, b, d] k2 pt2) pos.line X.env = pure false := by rfl)
    (hs1 : starEach [a, b, d] X.env = (false, eval a X.env) :: starEach [b, d] X.env := by rfl) (hs2 : starEach [b, d] X.env = (false, eval b X.env) :: starEach [d] X.env := by rfl) (hs3 : starEach [d] X.env = (false, eval d X.env) :: starEach [] X.env := by rfl) :
    DS X c pr E (.Assign [.Tuple [.Name x px, .Name y py, .Name z pz] kt pt] (.Tuple [a, b, d] k2 pt2) pos) (sPar [(i, f), (j, g), (l, g3)]) := by
  refine ⟨ps_imp (ps_par3 hc hN hi hj hl hij hil hjl hx hy hz (pa_cons ha.pe (pa_cons hb.pe (pa_cons hd.pe pa_nil hs3) hs2) hs1) hw hs) fun T σ H q => ?_⟩
  have h := sPar_sat (fun p => fun p' hp' => by
    rcases List.mem_cons.mp hp' with e | hp'
    · rw [e]; exact (hp p).1
    · rcases List.mem_cons.mp hp' with e | hp'
      · rw [e]; exact (hp p).2.1
      · rw [List.mem_singleton.mp hp']; exact (hp p).2.2) q
  obtain ⟨ρ, Z, B, r0, h⟩ := h
  refine ⟨ρ, Z, B, r0, O.sat_mono h (fun x hx v H1 R1 V1 => ?_) fun _ _ _ h => h⟩
  obtain ⟨ρ1, Z1, B1, r1, h1⟩ := hx v H1 R1 V1
  refine ⟨ρ1, Z1, B1, r1, O.sat_mono h1 (fun x hx w H2 R2 V2 => ?_) fun _ _ _ h => h⟩
  obtain ⟨ρ2, Z2, B2, r2, h2⟩ := hx w H2 R2 V2
  refine ⟨ρ2, Z2, B2, r2, O.sat_mono h2 (fun x hx u H3 R3 V3 => ?_) fun _ _ _ h => h⟩
  have h3 := (hx u H3 R3 V3).2
  refine ⟨v, w, u, rfl, ?_⟩
  rw [List.set_comm _ _ hij, List.set_comm _ _ hil, List.set_comm _ _ hjl]
  exact h3
end
end U
namespace U
set_option autoImplicit false
open PySem PySem.Spec PyProof.Rows L2

/-! ### what is walked -/
/-- J gives the data ds, as long as what no slot owned at its start stands -/
def IOk (c : Cc) (σ : St) (H : Hp) (ρ : En) (Z : Addr → Prop) (J : It) (ds : List D) : Prop := ∃ (G : Hp → Prop) (Y : Nat → Hp → V → Hp → Prop), Walk J ds.length G Y ∧
  (∀ H2, (∀ b o, hull σ ρ H b = some o → H2 b = some o) → G H2) ∧
  (∀ i H2 x H3, i < ds.length → (∀ b o, hull σ ρ H b = some o → H2 b = some o) → Y i H2 x H3 → Same H2 H3 ∧ ∃ d, ds[i]? = some d ∧ ∀ A2 : Addr → Prop, (∀ v d, Rep c (Av σ ρ Z) H v d → Rep c A2 H2 v d) → Rep c A2 H3 x d)
abbrev IF := En → O (List D × En)
def liftI (c : Cc) (E : XK) (f : IF) : TI := fun σ H Rr => ∃ ρ Z B, R c σ H ρ Z B ∧ (f ρ).sat (fun r => ∀ J H', R c σ H' r.2 Z B → IOk c σ H' r.2 Z J r.1 → Rr J H') (XW c E σ Z B)
structure DI (X : Cx) (c : Cc) (E : XK) (tg iter : Expr) (f : IF) : Prop where
  pi : PI X tg iter (liftI c E f)
theorem pi_imp {X : Cx} {tg iter : Expr} {w w' : TI} (h : PI X tg iter w) (k : ∀ σ H Rr, w' σ H Rr → w σ H Rr) : PI X tg iter w' := ⟨fun pins s σ H Rr I q => h.run pins s σ H Rr I (k σ H Rr q)⟩
theorem pi_or {X : Cx} {tg iter : Expr} {w w' : TI} (h : PI X tg iter w) (h' : PI X tg iter w') : PI X tg iter (fun σ H Rr => w σ H Rr ∨ w' σ H Rr) := ⟨fun pins s σ H Rr I q => by
  rcases q with q | q
  · exact h.run pins s σ H Rr I q
  · exact h'.run pins s σ H Rr I q⟩

/-! ### for -/
def forL (t : Tg) (b : SF) : List D → En → O (Fl × En)
  | [], ρ => .ok (.nx, ρ)
  | d :: ds, ρ => match t d ρ with
    | none => .bad
    | some ρ1 => (b ρ1).bind fun r => match r.1 with
      | .nx => forL t b ds r.2
      | .ct => forL t b ds r.2
      | .bk => .ok (.nx, r.2)
      | .rt fr d => .ok (.rt fr d, r.2)
def sFor (fi : IF) (t : Tg) (b : SF) : SF := fun ρ => (fi ρ).bind fun r => forL t b r.1 r.2
section
variable {X : Cx} {c : Cc} {pr : Bool} {E : XK} {tg iter : Expr} {body : List Stmt} {fi : IF} {t : Tg} {b : SF} {pos : Pos} {tv : List Nat}
theorem ds_for (hp : PassesOwn (model X.prog X.w) X.A X.env X.xe) (hc : X.calm = true) (hi : DI X c E tg iter fi) (hg : DG X c tv tg t) (hpt : pr = true → 0 ∉ tv) (hb : DSs X c pr E body b)
    (hs : ∀ x, foldedSetIterable iter X.env x = pure x := by intro _; rfl) : DS X c pr E (.For tg iter body [] pos) (sFor fi t b) := by
  refine ⟨ps_imp (ps_for hp hc hi.pi hg.pg hb.ps hs) fun T σ H ⟨ρ, Z, B, r0, q⟩ => ⟨ρ, Z, B, r0, O.sat_then (o := fi ρ) q (fun a ha J H1 R1 io => ?_) fun _ _ _ h => h.xw⟩⟩
  obtain ⟨ds, ρ1⟩ := a
  obtain ⟨G, Y, wk, hG, hY⟩ := io
  refine for_it wk (fun i σ' H' => ∃ ρ', (pr = true → σ'[0]? = σ[0]?) ∧ R c σ' H' ρ' Z (hull σ ρ1 H1) ∧ (forL t b (ds.drop i) ρ').sat (SW c pr σ Z B T) (XWS c pr E σ Z B)) ?_ ?_ ?_ ?_
  · exact ⟨ρ1, fun _ => rfl, R1.strong, ha⟩
  · rintro i σ' H' _ ⟨ρ', _, R', _⟩
    exact hG H' R'.base
  · rintro i x σ2 H2 H3 hi ⟨ρ', p2, R2, q2⟩ y
    obtain ⟨s, d, hd, tr⟩ := hY i H2 x H3 hi R2.base y
    have hdrop : ds.drop i = d :: ds.drop (i + 1) := by
      have hlt : i < ds.length := hi
      rw [List.getElem?_eq_getElem hlt] at hd
      cases hd
      exact List.drop_eq_getElem_cons hlt
    rw [hdrop] at q2
    unfold forL at q2
    cases ht : t d ρ' with
    | none => rw [ht] at q2; exact q2.elim
    | some ρ2 =>
      rw [ht] at q2
      have R3 := R2.same s
      refine ⟨ρ', Z, hull σ ρ1 H1, d, R3, tr _ fun v d h => R1.keepV' R2 (fun _ _ h => h) (fun _ => .inl) h, ρ2, ht, fun σ4 H4 p4 R4 _ => ?_⟩
      have pp : pr = true → σ4[0]? = σ[0]? := fun p => (p4.2 0 (hpt p)).trans (p2 p)
      refine ⟨ρ2, Z, hull σ ρ1 H1, R4, O.sat_then (o := b ρ2) q2 (fun r hr => ?_) fun _ _ _ h => (h.trans pp).weak R1.hull_le⟩
      obtain ⟨fl, ρ3⟩ := r
      cases fl with
      | nx => exact fun σ5 H5 p5 R5 => ⟨ρ3, fun p => (p5 p).trans (pp p), R5, hr⟩
      | ct => exact fun σ5 H5 p5 R5 => ⟨ρ3, fun p => (p5 p).trans (pp p), R5, hr⟩
      | bk => exact fun σ5 H5 p5 R5 => hr σ5 H5 (fun p => (p5 p).trans (pp p)) (R5.weak R1.hull_le)
      | rt fr d => exact fun v σ5 H5 p5 R5 V5 => hr v σ5 H5 (fun p => (p5 p).trans (pp p)) (R5.weak R1.hull_le) (V5.weak R1.hull_le)
  · rintro σ' H' ⟨ρ', p', R', q'⟩
    rw [List.drop_length] at q'
    exact q' σ' H' p' (R'.weak R1.hull_le)
end

/-! ### while -/
def whileL (t : TF) (b : SF) : Nat → En → O (Fl × En)
  | 0, _ => .bad
  | n + 1, ρ => (t ρ).bind fun r => if r.1 = true then (b r.2).bind fun s => match s.1 with
      | .nx => whileL t b n s.2
      | .ct => whileL t b n s.2
      | .bk => .ok (.nx, s.2)
      | .rt fr d => .ok (.rt fr d, s.2)
    else .ok (.nx, r.2)
def sWhile (n : Nat) (t : TF) (b : SF) : SF := whileL t b n
section
variable {X : Cx} {c : Cc} {pr : Bool} {E : XK} {e : Expr} {body : List Stmt} {t : TF} {b : SF} {pos : Pos}
theorem ds_while (n : Nat) (hp : PassesOwn (model X.prog X.w) X.A X.env X.xe) (ht : DT X c E e t) (hb : DSs X c pr E body b) : DS X c pr E (.While e body [] pos) (sWhile n t b) := by
  refine ⟨ps_imp (ps_while hp ht.pt hb.ps) fun T σ H ⟨ρ, Z, B, r0, q⟩ => ?_⟩
  refine ⟨fun m σ' H' => ∃ ρ', (pr = true → σ'[0]? = σ[0]?) ∧ R c σ' H' ρ' Z B ∧ (whileL t b m ρ').sat (SW c pr σ Z B T) (XWS c pr E σ Z B), ⟨n, ρ, fun _ => rfl, r0, q⟩, ?_⟩
  rintro m σ1 H1 ⟨ρ1, p1, R1, q1⟩
  cases m with
  | zero => exact q1.elim
  | succ m =>
    refine ⟨ρ1, Z, B, R1, O.sat_then (o := t ρ1) q1 (fun r hr H2 R2 => ?_) fun _ _ _ h => (h.trans p1).xw⟩
    obtain ⟨k, ρ2⟩ := r
    cases k with
    | false => rw [if_neg Bool.false_ne_true]; exact hr σ1 H2 p1 R2
    | true =>
      rw [if_pos rfl]
      refine ⟨fun σ' H' => ∃ ρ', (pr = true → σ'[0]? = σ[0]?) ∧ R c σ' H' ρ' Z B ∧ (whileL t b m ρ').sat (SW c pr σ Z B T) (XWS c pr E σ Z B), fun σ' H' h => ⟨m, Nat.lt_succ_self m, h⟩, ?_⟩
      refine ⟨ρ2, Z, B, R2, O.sat_then (o := b ρ2) hr (fun s hs => ?_) fun _ _ _ h => h.trans p1⟩
      obtain ⟨fl, ρ3⟩ := s
      cases fl with
      | nx => exact fun σ5 H5 p5 R5 => ⟨ρ3, fun p => (p5 p).trans (p1 p), R5, hs⟩
      | ct => exact fun σ5 H5 p5 R5 => ⟨ρ3, fun p => (p5 p).trans (p1 p), R5, hs⟩
      | bk => exact fun σ5 H5 p5 R5 => hs σ5 H5 (fun p => (p5 p).trans (p1 p)) R5
      | rt fr d => exact fun v σ5 H5 p5 R5 V5 => hs v σ5 H5 (fun p => (p5 p).trans (p1 p)) R5 V5
end

/-! ### list comprehensions -/
def wipeE (ρ : En) : List Nat → En
  | [] => ρ
  | v :: vs => (wipeE ρ vs).set v none
/-- none of the slots owns a list -/
def noOwn (ρ : En) (vs : List Nat) : Bool := vs.all fun v => match ρ[v]? with
  | some (some (true, _)) => false
  | _ => true
/-- the slots vs as they are in ρ, the others as in ρ' -/
def backE (ρ ρ' : En) : List Nat → En
  | [] => ρ'
  | v :: vs => match ρ[v]? with
    | some x => (backE ρ ρ' vs).set v x
    | none => backE ρ ρ' vs
/-- a comprehension's tests: all of them -/
def tAll : List TF → TF
  | [] => fun ρ => .ok (true, ρ)
  | t :: ts => fun ρ => (t ρ).bind fun r => if r.1 = true then tAll ts r.2 else .ok (false, r.2)
def lcL (vs : List Nat) (t : Tg) (cs : TF) (f : EF) : List D → En → O (List D × En)
  | [], ρ => .ok ([], ρ)
  | d :: ds, ρ => match t d (wipeE ρ vs) with
    | none => .bad
    | some ρ1 => (cs ρ1).bind fun r => if r.1 = true then (f r.2).bind fun a => (lcL vs t cs f ds a.2.2).bind fun w => .ok (a.2.1 :: w.1, w.2) else lcL vs t cs f ds r.2
def fLc (vs : List Nat) (fi : IF) (t : Tg) (cs : TF) (f : EF) : EF := fun ρ => (fi ρ).bind fun r =>
  if noOwn r.2 vs && decide (r.1.length ≤ 16777216) then
    match lcL vs t cs f r.1 r.2 with
    | .ok w => .ok (true, .lst w.1, backE r.2 w.2 vs)
    | _ => .bad
  else .bad

section
variable {c : Cc} {σ : St} {H H' : Hp} {ρ ρ' : En} {Z : Addr → Prop} {B : Hp} {vs : List Nat}
theorem wipe_get : ∀ (vs : List Nat) (σ : St) (j : Nat), (wipe σ vs)[j]? = if j ∈ vs ∧ j < σ.length then some none else σ[j]?
  | [], σ, j => by simp [wipe]
  | v :: vs, σ, j => by
    unfold wipe
    by_cases e : v = j
    · subst e
      by_cases k : v < σ.length
      · rw [List.getElem?_set_self (by rw [wipe_length]; exact k), if_pos ⟨List.mem_cons_self, k⟩]
      · rw [List.getElem?_eq_none (by rw [List.length_set, wipe_length]; omega), if_neg fun z => k z.2, List.getElem?_eq_none (by omega)]
    · rw [List.getElem?_set_ne e, wipe_get vs σ j]
      have : (j ∈ v :: vs ∧ j < σ.length) ↔ (j ∈ vs ∧ j < σ.length) := by simp [Ne.symm e]
      simp only [this]
theorem wipeE_len : ∀ (vs : List Nat) (ρ : En), (wipeE ρ vs).length = ρ.length
  | [], _ => rfl
  | v :: vs, ρ => by unfold wipeE; rw [List.length_set, wipeE_len vs ρ]
theorem wipeE_get : ∀ (vs : List Nat) (ρ : En) (j : Nat), (wipeE ρ vs)[j]? = if j ∈ vs ∧ j < ρ.length then some none else ρ[j]?
  | [], ρ, j => by simp [wipeE]
  | v :: vs, ρ, j => by
    unfold wipeE
    by_cases e : v = j
    · subst e
      by_cases k : v < ρ.length
      · rw [List.getElem?_set_self (by rw [wipeE_len]; exact k), if_pos ⟨List.mem_cons_self, k⟩]
      · rw [List.getElem?_eq_none (by rw [List.length_set, wipeE_len]; omega), if_neg fun z => k z.2, List.getElem?_eq_none (by omega)]
    · rw [List.getElem?_set_ne e, wipeE_get vs ρ j]
      have : (j ∈ v :: vs ∧ j < ρ.length) ↔ (j ∈ vs ∧ j < ρ.length) := by simp [Ne.symm e]
      simp only [this]
theorem backE_len : ∀ (vs : List Nat) (ρ ρ' : En), (backE ρ ρ' vs).length = ρ'.length
  | [], _, _ => rfl
  | v :: vs, ρ, ρ' => by
    unfold backE
    split
    · rw [List.length_set, backE_len vs ρ ρ']
    · exact backE_len vs ρ ρ'
theorem backE_get : ∀ (vs : List Nat) (ρ ρ' : En) (j : Nat), ρ.length = ρ'.length → (backE ρ ρ' vs)[j]? = if j ∈ vs then ρ[j]? else ρ'[j]?
  | [], ρ, ρ', j, _ => by simp [backE]
  | v :: vs, ρ, ρ', j, hl => by
    unfold backE
    split
    · rename_i x hx
      by_cases e : v = j
      · subst e
        have hv : v < ρ.length := by
          by_cases k : v < ρ.length
          · exact k
          · rw [List.getElem?_eq_none (by omega)] at hx; cases hx
        rw [List.getElem?_set_self (by rw [backE_len, ← hl]; exact hv), if_pos List.mem_cons_self, hx]
      · rw [List.getElem?_set_ne e, backE_get vs ρ ρ' j hl]
        simp [Ne.symm e]
    · rename_i hx
      rw [backE_get vs ρ ρ' j hl]
      by_cases e : v = j
      · subst e
        have hv : ρ.length ≤ v := List.getElem?_eq_none_iff.mp hx
        rw [if_pos (List.mem_cons_self : v ∈ v :: vs), hx]
        split
        · rfl
        · exact List.getElem?_eq_none (by omega)
      · simp [Ne.symm e]
theorem own_wipe {a : Addr} (h : Own (wipe σ vs) (wipeE ρ vs) a) : Own σ ρ a := by
  obtain ⟨j, d, h1, h2⟩ := h
  rw [wipeE_get] at h1
  rw [wipe_get] at h2
  split at h1
  · cases h1
  · split at h2
    · cases h2
    · exact ⟨j, d, h1, h2⟩
theorem R.wiped (r : R c σ H ρ Z B) (vs : List Nat) : R c (L2.wipe σ vs) H (wipeE ρ vs) Z B := by
  have av : ∀ b, Av (L2.wipe σ vs) (wipeE ρ vs) Z b → Av σ ρ Z b := fun b z => z.imp id own_wipe
  have g1 : ∀ (j : Nat) (x : Bool × D), (wipeE ρ vs)[j]? = some (some x) → ρ[j]? = some (some x) ∧ ∀ v, σ[j]? = some (some v) → (L2.wipe σ vs)[j]? = some (some v) := fun j x h => by
    rw [wipeE_get] at h
    split at h
    · cases h
    · rename_i hn
      refine ⟨h, fun v hv => ?_⟩
      rw [wipe_get, if_neg (by rw [r.len]; exact hn)]
      exact hv
  refine ⟨by rw [wipe_length, wipeE_len]; exact r.len, fun j d e => ?_, fun j d e => ?_, fun j l dj dl b e1 e2 s1 s2 => ?_, r.base, r.zd⟩
  · obtain ⟨h1, h2⟩ := g1 j _ e
    obtain ⟨v, k1, k2⟩ := r.frz j d h1
    exact ⟨v, h2 v k1, k2.avoid fun b z => .inl (av b z)⟩
  · obtain ⟨h1, h2⟩ := g1 j _ e
    obtain ⟨a, ds, xs, k2, k3, k4, k5, k6⟩ := r.own j d h1
    exact ⟨a, ds, xs, h2 _ k2, k3, k4.avoid fun b z => .inl (av b z), k5, k6⟩
  · refine r.excl j l dj dl b (g1 j _ e1).1 (g1 l _ e2).1 ?_ ?_
    · rw [wipe_get] at s1
      split at s1
      · cases s1
      · exact s1
    · rw [wipe_get] at s2
      split at s2
      · cases s2
      · exact s2
/-- a list that is avoided changes -/
theorem R.otherC (r : R c σ H ρ Z B) {a : Addr} {u u' : HO} (hz : Z a) (ha : H a = some u) (cl : Cl u) (hb : B a = none) (k : But (· = a) H H') (ha' : H' a = some u') : R c σ H' ρ Z B := by
  have kw : ∀ b, b = a → ∃ u, H b = some u ∧ Cl u := fun b z => ⟨u, by rw [z]; exact ha, cl⟩
  refine ⟨r.len, fun j d e => ?_, fun j d e => ?_, r.excl, fun b o e => ?_, fun b z e => ?_⟩
  · obtain ⟨v, h1, h2⟩ := r.frz j d e
    exact ⟨v, h1, Rep.but k kw (fun b z => by subst z; exact .inl hz) h2⟩
  · obtain ⟨b, ds, xs, h2, h3, h4, h5, h6⟩ := r.own j d e
    exact ⟨b, ds, xs, h2, h3.move fun _ q => k _ _ (fun z => by subst z; exact h5 hz) q, RepL.but k kw (fun b z => by subst z; exact .inl hz) h4, h5, h6⟩
  · exact k b o (fun z => by subst z; rw [hb] at e; cases e) (r.base b o e)
  · by_cases q : b = a
    · subst q; rw [ha'] at e; cases e
    · cases q2 : H b with
      | none => exact r.zd b z q2
      | some o => rw [k b o q q2] at e; cases e
theorem R.other (r : R c σ H ρ Z B) {a : Addr} {xs ys : List V} (hz : Z a) (ha : H a = some (.lst xs)) (hb : B a = none) (k : But (· = a) H H') (ha' : H' a = some (.lst ys)) : R c σ H' ρ Z B := r.otherC hz ha (by exact trivial) hb k ha'
theorem noOwn_at (h : noOwn ρ vs = true) {j : Nat} (hj : j ∈ vs) (d : D) : ρ[j]? ≠ some (some (true, d)) := fun e => by
  have := List.all_eq_true.mp h j hj
  rw [e] at this
  cases this
theorem R.back {H1 : Hp} {Z' : Addr → Prop} (r1 : R c σ H1 ρ Z B) (hno : noOwn ρ vs = true) (r : R c (wipe σ vs) H (wipeE ρ' vs) Z' (hull σ ρ H1)) (hz : ∀ b, Z' b → Z b ∨ H1 b = none) : R c σ H (backE ρ ρ' vs) Z' B := by
  have hl : ρ.length = ρ'.length := by
    have := r.len
    rw [wipe_length, wipeE_len] at this
    rw [← r1.len]; exact this
  have out : ∀ (j : Nat), j ∉ vs → (L2.wipe σ vs)[j]? = σ[j]? ∧ (wipeE ρ' vs)[j]? = ρ'[j]? := fun j h => by
    rw [wipe_get, wipeE_get, if_neg fun z => h z.1, if_neg fun z => h z.1]
    exact ⟨rfl, rfl⟩
  have ow : ∀ b, Own σ (backE ρ ρ' vs) b → Own (L2.wipe σ vs) (wipeE ρ' vs) b := fun b ⟨j, d, h1, h2⟩ => by
    rw [backE_get vs ρ ρ' j hl] at h1
    split at h1
    · rename_i hj
      exact absurd h1 (noOwn_at hno hj d)
    · rename_i hj
      exact ⟨j, d, by rw [(out j hj).2]; exact h1, by rw [(out j hj).1]; exact h2⟩
  have av : ∀ b, Av σ (backE ρ ρ' vs) Z' b → Av (L2.wipe σ vs) (wipeE ρ' vs) Z' b := fun b z => z.imp id (ow b)
  refine ⟨by rw [backE_len, ← hl]; exact r1.len, fun j d e => ?_, fun j d e => ?_, fun j l dj dl b e1 e2 s1 s2 => ?_, fun b o e => r.base b o (r1.hull_le b o e), r.zd⟩
  · rw [backE_get vs ρ ρ' j hl] at e
    split at e
    · obtain ⟨v, k1, k2⟩ := r1.frz j d e
      exact ⟨v, k1, (r1.keepV' r (fun _ _ h => h) hz k2).avoid fun b z => .inl (av b z)⟩
    · rename_i hj
      obtain ⟨v, k1, k2⟩ := r.frz j d (by rw [(out j hj).2]; exact e)
      exact ⟨v, by rw [← (out j hj).1]; exact k1, k2.avoid fun b z => .inl (av b z)⟩
  · rw [backE_get vs ρ ρ' j hl] at e
    split at e
    · rename_i hj
      exact absurd e (noOwn_at hno hj d)
    · rename_i hj
      obtain ⟨a, ds, xs, k2, k3, k4, k5, k6⟩ := r.own j d (by rw [(out j hj).2]; exact e)
      refine ⟨a, ds, xs, by rw [← (out j hj).1]; exact k2, k3, k4.avoid fun b z => .inl (av b z), k5, ?_⟩
      cases q : B a with
      | none => rfl
      | some o => rw [r1.hull_le a o q] at k6; cases k6
  · have g : ∀ (j : Nat) (dj : D), (backE ρ ρ' vs)[j]? = some (some (true, dj)) → (wipeE ρ' vs)[j]? = some (some (true, dj)) ∧ (L2.wipe σ vs)[j]? = σ[j]? := fun j dj e => by
      rw [backE_get vs ρ ρ' j hl] at e
      split at e
      · rename_i hj
        exact absurd e (noOwn_at hno hj dj)
      · rename_i hj
        exact ⟨by rw [(out j hj).2]; exact e, (out j hj).1⟩
    exact r.excl j l dj dl b (g j dj e1).1 (g l dl e2).1 (by rw [(g j dj e1).2]; exact s1) (by rw [(g l dl e2).2]; exact s2)
theorem wipe_only {tv vs : List Nat} {σ σ2 : St} (h : Only tv (wipe σ vs) σ2) (ht : ∀ j ∈ tv, j ∈ vs) : wipe σ2 vs = wipe σ vs := by
  apply List.ext_getElem?
  intro j
  have hl : σ2.length = σ.length := by rw [h.1, wipe_length]
  rw [wipe_get, wipe_get, hl]
  split
  · rfl
  · rename_i hn
    by_cases hj : j ∈ vs
    · have : σ.length ≤ j := by
        by_cases k : j < σ.length
        · exact absurd ⟨hj, k⟩ hn
        · omega
      rw [List.getElem?_eq_none (by omega), List.getElem?_eq_none (by omega)]
    · rw [h.2 j fun z => hj (ht j z), wipe_get, if_neg fun z => hj z.1]
end

/-- a clause's tests -/
structure DTs (X : Cx) (c : Cc) (E : XK) (es : List Expr) (f : TF) : Prop where
  pt : PTs X es (liftT c E f)
theorem pts_imp {X : Cx} {es : List Expr} {t t' : TT} (h : PTs X es t) (k : ∀ σ H Q, t' σ H Q → t σ H Q) : PTs X es t' := ⟨fun pins s σ H Q I q => h.run pins s σ H Q I (k σ H Q q)⟩
section
variable {X : Cx} {c : Cc} {E : XK} {e : Expr} {f : TF}
theorem dts_nil : DTs X c E [] (tAll []) := ⟨pts_imp pts_nil fun σ H Q ⟨ρ, Z, B, r, q⟩ => q H r⟩
theorem dts_one (h : DT X c E e f) : DTs X c E [e] f := ⟨pts_one h.pt⟩
end
section
variable {X : Cx} {c : Cc} {E : XK} {elt tg iter : Expr} {ifs : List Expr} {fi : IF} {t : Tg} {cs : TF} {f : EF} {pos : Pos} {tv vs : List Nat}
theorem lift_lc (htv : ∀ j ∈ tv, j ∈ vs) {σ : St} {H : Hp} {Q : VK} (h : liftE c E (fLc vs fi t cs f) σ H Q) : tLc (liftI c E fi) (liftG c tv t) (liftT c E0 cs) (liftE c E0 f) vs σ H Q := by
  obtain ⟨ρ, Z, B, r0, h⟩ := h
  refine ⟨ρ, Z, B, r0, O.sat_then (o := fi ρ) h (fun a ha J H1 R1 io => ?_) fun _ _ _ h => h⟩
  intro L hL
  obtain ⟨ds, ρ1⟩ := a
  split at ha
  case isFalse => exact ha.elim
  rename_i hcond
  obtain ⟨hno, hlen⟩ := Bool.and_eq_true_iff.mp hcond
  have hlen : ds.length ≤ 16777216 := of_decide_eq_true hlen
  obtain ⟨G, Y, wk, hG, hY⟩ := io
  have RB := R1.strong
  have hz : ∀ b, (Z b ∨ b = L) → Z b ∨ H1 b = none := fun b z => z.imp id fun e => by rw [e]; exact hL
  have start : R c (wipe σ vs) (upd H1 L (.lst [])) (wipeE ρ1 vs) (fun b => Z b ∨ b = L) (hull σ ρ1 H1) := (RB.wiped vs).more (same_new hL) hL (by rw [upd_same]; exact fun z => nomatch z)
  have bL : hull σ ρ1 H1 L = none := by
    cases q : hull σ ρ1 H1 L with
    | none => rfl
    | some o => have := RB.base L o q; rw [hL] at this; cases this
  refine lc_it wk (fun i H' => ∃ ρ' acc accV, R c (wipe σ vs) H' (wipeE ρ' vs) (fun b => Z b ∨ b = L) (hull σ ρ1 H1) ∧ H' L = some (.lst accV) ∧ RepL c (Av (wipe σ vs) (wipeE ρ' vs) fun b => Z b ∨ b = L) H' accV acc ∧ acc.length ≤ i ∧
    (lcL vs t cs f (ds.drop i) ρ').sat (fun w => ∀ v H', R c σ H' (backE ρ1 w.2 vs) Z B → Val c σ H' (backE ρ1 w.2 vs) Z B true v (.lst (acc ++ w.1)) → Q v H') (fun _ _ _ => False)) ?_ ?_ ?_ ?_
  · refine ⟨ρ1, [], [], start, upd_same, .nil, Nat.zero_le _, ?_⟩
    rw [List.drop_zero]
    have ha : O.sat _ _ (match lcL vs t cs f ds ρ1 with
      | .ok w => O.ok (true, D.lst w.1, backE ρ1 w.2 vs)
      | _ => .bad) := ha
    cases q : lcL vs t cs f ds ρ1 with
    | ok w => rw [q] at ha; exact ha
    | ex _ _ _ => rw [q] at ha; exact ha.elim
    | bad => rw [q] at ha; exact ha.elim
  · rintro i H' _ ⟨ρ', _, _, R', _⟩
    exact hG H' R'.base
  · rintro i x H2 H3 hi ⟨ρ', acc, accV, R2, hacc, racc, hai, q2⟩ y
    obtain ⟨s, d, hd, tr⟩ := hY i H2 x H3 hi R2.base y
    have hdrop : ds.drop i = d :: ds.drop (i + 1) := by
      have hlt : i < ds.length := hi
      rw [List.getElem?_eq_getElem hlt] at hd
      cases hd
      exact List.drop_eq_getElem_cons hlt
    rw [hdrop] at q2
    unfold lcL at q2
    split at q2
    case h_1 => exact q2.elim
    rename_i ρ2 ht
    have R3 := R2.same s
    have acc3 := RepL.same s racc
    refine ⟨wipeE ρ' vs, _, hull (wipe σ vs) (wipeE ρ' vs) H3, d, R3.strong, tr _ fun v d h => R1.keepV' R2 (fun _ _ h => h) hz h, ρ2, ht, fun σ4 H4 p4 R4 _ => ?_⟩
    have ew : wipe σ4 vs = wipe σ vs := wipe_only p4 htv
    refine ⟨ew, ρ2, _, _, R4, O.sat_then (o := cs ρ2) q2 (fun r hr H5 R5 => ?_) fun _ _ _ h => h.elim⟩
    have nL : ¬ Own (wipe σ vs) (wipeE ρ' vs) L := fun z => (R3.ownB z).2 (.inr rfl)
    have hL3 : hull (wipe σ vs) (wipeE ρ' vs) H3 L = some (.lst accV) := by rw [hull_not nL]; exact s _ _ hacc
    obtain ⟨k, ρ3⟩ := r
    cases k with
    | false =>
      have hr : (lcL vs t cs f (ds.drop (i + 1)) ρ3).sat _ _ := hr
      refine iteF ⟨ρ3, acc, accV, ?_, R5.base _ _ hL3, ?_, by omega, hr⟩
      · have := (R5.weak R3.hull_le).wiped vs
        rw [ew] at this; exact this
      · have := R3.keepL' R5 (fun _ _ h => h) (fun _ => .inl) acc3
        rw [← ew]
        exact this.avoid fun b z => .inl (z.imp id own_wipe)
    | true =>
      refine iteT ⟨ρ3, _, _, R5, O.sat_then (o := f ρ3) hr (fun e he v H6 R6 V6 => ?_) fun _ _ _ h => h.elim⟩
      have h6L := R6.base _ _ hL3
      have acc6 := R3.keepL' R6 (fun _ _ h => h) (fun _ => .inl) acc3
      refine ⟨accV, h6L, ?_, e.2.2, acc ++ [e.2.1], accV ++ [v], ?_, upd_same, ?_, ?_, ?_⟩
      · have hi' : i < ds.length := hi
        rw [sizeLine_eq, racc.len]; omega
      · have := (R6.weak R3.hull_le).wiped vs
        rw [ew] at this
        exact this.other (.inr rfl) h6L bL (fun b o n e => by rw [upd_ne n]; exact e) upd_same
      · have main : RepL c (Av σ4 e.2.2 fun b => Z b ∨ b = L) H6 (accV ++ [v]) (acc ++ [e.2.1]) := acc6.app (.cons V6.rep .nil)
        rw [← ew]
        refine (RepL.but (W := (· = L)) (fun b o n e => by rw [upd_ne n]; exact e) (fun b z => ⟨.lst accV, by rw [z]; exact h6L, trivial⟩) (fun b z => .inl (.inr z)) main).avoid fun b z => .inl (z.imp id own_wipe)
      · rw [List.length_append, List.length_singleton]; omega
      · cases q : lcL vs t cs f (ds.drop (i + 1)) e.2.2 with
        | bad => rw [q] at he; exact he.elim
        | ex _ _ _ => rw [q] at he; exact he.elim
        | ok w =>
          rw [q] at he
          show ∀ v H', _ → Val c σ H' (backE ρ1 w.2 vs) Z B true v (.lst (acc ++ [e.2.1] ++ w.1)) → _
          rw [List.append_assoc]
          exact he
  · rintro H' ⟨ρ', acc, accV, R', hacc, racc, _, q'⟩
    rw [List.drop_length] at q'
    have q' : ∀ v H', R c σ H' (backE ρ1 ρ' vs) Z B → Val c σ H' (backE ρ1 ρ' vs) Z B true v (.lst (acc ++ [])) → Q v H' := q'
    rw [List.append_nil] at q'
    have RZ := R.back R1 hno R' hz
    have hl : ρ1.length = ρ'.length := by
      have := R'.len
      rw [wipe_length, wipeE_len] at this
      rw [← R1.len]; exact this
    refine q' (.ref L) H' (RZ.less fun b z => .inl z) ⟨L, acc, accV, rfl, .lst hacc, ?_, fun z => R1.zd L z hL, fun z => (RZ.ownB z).2 (.inr rfl), ?_, RZ⟩
    · refine racc.avoid fun b z => .inl (z.imp id fun ⟨j, d, h1, h2⟩ => ?_)
      rw [backE_get vs ρ1 ρ' j hl] at h1
      split at h1
      · rename_i hj
        exact absurd h1 (noOwn_at hno hj d)
      · rename_i hj
        exact ⟨j, d, by rw [wipeE_get, if_neg fun z => hj z.1]; exact h1, by rw [wipe_get, if_neg fun z => hj z.1]; exact h2⟩
    · cases q : B L with
      | none => rfl
      | some o => have := R1.base L o q; rw [hL] at this; cases this
theorem de_lc {scope : Scope} {own : List (Str × Nat)} (hc : X.calm = true) (hN : X.N.Nodup) (hi : DI X c E tg iter fi) (ok : BlkOk X.N X.env.scope scope own) (hvs : own.map (·.2) = vs) (htv : ∀ j ∈ tv, j ∈ vs)
    (hg : ∀ (s : Shared) (H : Hp) (C : Addr) (cl : List (Str × Addr)) (fp : List Addr), DG (X.blk s H scope (compEnvC scope cl C X.env) fp) c tv tg t) (ht : ∀ (s : Shared) (H : Hp) (C : Addr) (cl : List (Str × Addr)) (fp : List Addr), DTs (X.blk s H scope (compEnvC scope cl C X.env) fp) c E0 ifs cs)
    (he : ∀ (s : Shared) (H : Hp) (C : Addr) (cl : List (Str × Addr)) (fp : List Addr), DE (X.blk s H scope (compEnvC scope cl C X.env) fp) c E0 elt f) (hs : ∀ x, foldedSetIterable iter X.env x = pure x := by intro _; rfl) :
    DE X c E (.ListComp elt [⟨tg, iter, ifs, 0⟩] scope pos) (fLc vs fi t cs f) := by
  subst hvs
  exact ⟨pe_imp (pe_lc hc hN hi.pi ok (fun s H C cl fp => (hg s H C cl fp).pg) (fun s H C cl fp => (ht s H C cl fp).pt) (fun s H C cl fp => (he s H C cl fp).pe) hs) fun _ _ _ h => lift_lc htv h⟩
/-- name = [..] on one line, the name a local -/
theorem ds_setLc {pr : Bool} {i : Nat} {y : Str} {py : Pos} {scope : Scope} {own : List (Str × Nat)} {spos : Pos} (hc : X.calm = true) (hN : X.N.Nodup) (hy : X.N[i]? = some y) (hyl : X.env.scope.names.lookup y = some .local) (hp : pr = true → i ≠ 0)
    (hsw : swapsWith (.ListComp elt [⟨tg, iter, ifs, 0⟩] scope pos) (some (.Name y py)) spos.line X.env = pure true) (hi : DI X c E tg iter fi) (ok : BlkOk X.N X.env.scope scope own) (hvs : own.map (·.2) = vs) (htv : ∀ j ∈ tv, j ∈ vs)
    (hg : ∀ (s : Shared) (H : Hp) (C : Addr) (cl : List (Str × Addr)) (fp : List Addr), DG (X.blk s H scope (compEnvC scope cl C X.env) fp) c tv tg t) (ht : ∀ (s : Shared) (H : Hp) (C : Addr) (cl : List (Str × Addr)) (fp : List Addr), DTs (X.blk s H scope (compEnvC scope cl C X.env) fp) c E0 ifs cs)
    (he : ∀ (s : Shared) (H : Hp) (C : Addr) (cl : List (Str × Addr)) (fp : List Addr), DE (X.blk s H scope (compEnvC scope cl C X.env) fp) c E0 elt f) (hs : ∀ x, foldedSetIterable iter X.env x = pure x := by intro _; rfl) :
    DS X c pr E (.Assign [.Name y py] (.ListComp elt [⟨tg, iter, ifs, 0⟩] scope pos) spos) (sSet i (fLc vs fi t cs f)) := by
  subst hvs
  refine ⟨ps_imp (ps_setLc hc hN hy hyl hsw hi.pi ok (fun s H C cl fp => (hg s H C cl fp).pg) (fun s H C cl fp => (ht s H C cl fp).pt) (fun s H C cl fp => (he s H C cl fp).pe) hs) fun T σ H q => ?_⟩
  obtain ⟨ρ, Z, B, r0, q⟩ := q
  refine lift_lc htv ⟨ρ, Z, B, r0, O.sat_then (o := fLc _ fi t cs f ρ) q (fun r hr v H' R' V' => ?_) fun _ _ _ h => h.xw⟩
  exact hr _ H' (fun p => set_zero (hp p)) (R'.assign V' i)
end
end U
namespace U
set_option autoImplicit false
open PySem PySem.Spec PyProof.Rows L2

/-! ### a def's body -/
def outs (io : Bool) (ρ : En) : Option (List D) := if io then (match ρ[0]? with
  | some (some (true, D.lst es)) => some [D.lst es]
  | _ => none) else some []
def finF (io : Bool) : O (Fl × En) → O (Bool × D × List D)
  | .ok r => match r.1 with
    | .nx => match outs io r.2 with
      | some o => .ok (false, .non, o)
      | none => .bad
    | .rt fr d => match outs io r.2 with
      | some o => .ok (fr, d, o)
      | none => .bad
    | _ => .bad
  | .ex k d ρ => if io then .bad else .ex k d ρ
  | .bad => .bad
def slots0 (io : Bool) : List D → En
  | [] => []
  | d :: ds => some (io, d) :: ds.map fun d => some (false, d)
/-- np parameters, nn names in all -/
def runF (np nn : Nat) (io : Bool) (b : SF) : FD := fun ds => if ds.length = np then finF io (b (slots0 io ds ++ List.replicate (nn - np) none)) else .bad

theorem slots0_len (io : Bool) (ds : List D) : (slots0 io ds).length = ds.length := by cases ds <;> simp [slots0]
section
variable {c : Cc} {H : Hp} {Z : Addr → Prop}
theorem start_get {N : List Str} {vs : List V} {i : Nat} {v : V} (h : vs[i]? = some v) : (L2.start N vs)[i]? = some (some v) := by
  unfold L2.start
  have hi : i < vs.length := by
    by_cases k : i < vs.length
    · exact k
    · rw [List.getElem?_eq_none (by omega)] at h; cases h
  rw [List.getElem?_append_left (by simpa using hi), List.getElem?_map, h]
  rfl
theorem slots_get {io : Bool} {ds : List D} {n : Nat} {i : Nat} {b : Bool} {d : D} (h : (slots0 io ds ++ List.replicate n none)[i]? = some (some (b, d))) : ds[i]? = some d ∧ (b = true → i = 0 ∧ io = true) ∧ (i = 0 → b = io) := by
  by_cases hi : i < ds.length
  · rw [List.getElem?_append_left (by rw [slots0_len]; exact hi)] at h
    cases ds with
    | nil => cases h
    | cons e es =>
      cases i with
      | zero =>
        have h : some (some (io, e)) = some (some (b, d)) := h
        cases h
        exact ⟨rfl, fun q => ⟨rfl, q⟩, fun _ => rfl⟩
      | succ i =>
        have h : (es.map fun d => some (false, d))[i]? = some (some (b, d)) := h
        rw [List.getElem?_map] at h
        cases q : es[i]? with
        | none => rw [q] at h; cases h
        | some x =>
          rw [q] at h
          cases h
          exact ⟨q, ⟨fun z => Bool.noConfusion z, fun z => Nat.noConfusion z⟩⟩
  · rw [List.getElem?_append_right (by rw [slots0_len]; omega), List.getElem?_replicate] at h
    split at h <;> cases h
end
section
variable {P : Program} {w : World} {K : PySem.W.Frag} {mg : Str → Option Value} {base : Heap} {CX : CXT} {c : Cc} {x qual : Str} {st : Stmt} {f : Addr} {fd : FuncData} {N ps : List Str} {k : Nat} {b : SF} {io : Bool}
theorem fn_den (F : Fun K x qual st f fd) (S : FnScope N ps (defScope st)) (hio : io = true → ps ≠ [])
    (hbody : ∀ (cdv : Value) (A : Around) (outer : List Env) (s : Shared) (H : Hp) (E : XK), Room k (A.deeper (envOfC qual (defScope st) s.heap.objs.size f cdv)) →
      DSs (cxOf CX P w K mg base N qual (defScope st) f cdv A outer s H E) c io E (defBody st) b) : FnOk P w K mg base CX (k + 1) f fd ps (spOf c io (runF ps.length N.length io b)) := by
  have hpl : ps.length ≤ N.length := by have := congrArg List.length S.pre; rw [List.length_take] at this; omega
  obtain ⟨oc, od, kV, doc, pm, an, cdv, ct, osl, rfl, lk, hcd⟩ := F.ex
  have len : ∀ vs H Q E, spOf c io (runF ps.length N.length io b) vs H Q E → vs.length = ps.length := by
    intro vs H Q E h
    cases io with
    | false =>
      obtain ⟨ds, Z, _, rl, h⟩ := h
      unfold runF at h
      split at h
      · rename_i e; rw [rl.len]; exact e
      · exact h.elim
    | true =>
      obtain ⟨a, ws, vs', es, ds', Z, rfl, _, _, _, _, rl, h⟩ := h
      unfold runF at h
      split at h
      · rename_i e; rw [List.length_cons, rl.len]; exact e
      · exact h.elim
  refine fn_of lk hcd S len fun A outer s H vs Q E hr h => ?_
  refine ⟨_, (hbody cdv A outer s H E hr).ps, ?_⟩
  have hvl := len vs H Q E h
  have hlen : ∀ ds : List D, ds.length = vs.length → (L2.start N vs).length = (slots0 io ds ++ List.replicate (N.length - ps.length) none).length := fun ds e => by
    unfold L2.start
    simp only [List.length_append, List.length_map, List.length_replicate, slots0_len]
    omega
  cases io with
  | false =>
    obtain ⟨ds, Z, zd, rl, h⟩ := h
    unfold runF at h
    split at h
    case isFalse => exact h.elim
    rename_i hdl
    have noO : ∀ a, ¬ Own (L2.start N vs) (slots0 false ds ++ List.replicate (N.length - ps.length) none) a := fun a ⟨i, d, h1, _⟩ => by
      have := (slots_get h1).2.1 rfl
      cases this.2
    refine ⟨slots0 false ds ++ List.replicate (N.length - ps.length) none, Z, H, ⟨hlen ds rl.len.symm, fun i d e => ?_, fun i d e => ?_, fun i j di dj a e1 e2 => ?_, fun _ _ h => h, zd⟩, ?_⟩
    · obtain ⟨v, h1, h2⟩ := rl.get (slots_get e).1
      exact ⟨v, start_get h1, h2.avoid fun a z => z.elim .inl fun z => absurd z (noO a)⟩
    · have := (slots_get e).2.1 rfl
      cases this.2
    · have := (slots_get e1).2.1 rfl
      cases this.2
    · cases hb : b (slots0 false ds ++ List.replicate (N.length - ps.length) none) with
      | bad => rw [hb] at h; exact h.elim
      | ex kk d ρ =>
        rw [hb] at h
        intro cls od σ' H' _ R' xr
        obtain ⟨C, dd, v, k1, k2, k3, k4, k5⟩ := xr
        exact h cls od H' R'.base ⟨C, dd, v, k1, k2, k3, k4, k5.avoid fun b z => .inl (.inl z)⟩
      | ok r =>
        rw [hb] at h
        obtain ⟨fl, ρ'⟩ := r
        cases fl with
        | nx =>
          intro σ' H' _ R'
          exact h .non H' R'.base .non
        | rt fr d =>
          intro v σ' H' _ R' V'
          refine h v H' R'.base ?_
          cases fr with
          | false => exact Rep.avoid (fun b z => .inl (.inl z)) V'
          | true =>
            obtain ⟨a, ds, xs, rfl, h3, h4, h5, h6, h7, h8⟩ := V'
            exact ⟨a, ds, xs, rfl, h7, h3, h4.avoid fun b z => .inl (.inl z)⟩
        | bk => exact h.elim
        | ct => exact h.elim
  | true =>
    obtain ⟨a, ws, vs', es, ds', Z, rfl, zd, nz, hH, rl1, rl2, h⟩ := h
    unfold runF at h
    split at h
    case isFalse => exact h.elim
    rename_i hdl
    have hlds : (D.lst es :: ds').length = (V.ref a :: vs').length := by rw [List.length_cons, List.length_cons, rl2.len]
    have s0 : (L2.start N (V.ref a :: vs'))[0]? = some (some (.ref a)) := start_get rfl
    have r0 : (slots0 true (D.lst es :: ds') ++ List.replicate (N.length - ps.length) none)[0]? = some (some (true, .lst es)) := rfl
    have ow : ∀ b, Own (L2.start N (V.ref a :: vs')) (slots0 true (D.lst es :: ds') ++ List.replicate (N.length - ps.length) none) b ↔ b = a := fun b => by
      constructor
      · rintro ⟨i, d, h1, h2⟩
        have := ((slots_get h1).2.1 rfl).1
        subst this
        rw [s0] at h2; cases h2; rfl
      · intro e
        subst e
        exact ⟨0, _, r0, s0⟩
    have av : ∀ b, Av (L2.start N (V.ref a :: vs')) (slots0 true (D.lst es :: ds') ++ List.replicate (N.length - ps.length) none) Z b → (Z b ∨ b = a) := fun b z => z.imp id (ow b).mp
    refine ⟨slots0 true (D.lst es :: ds') ++ List.replicate (N.length - ps.length) none, Z, fun b => if b = a then none else H b, ⟨hlen _ hlds, fun i d e => ?_, fun i d e => ?_, fun i j di dj b e1 e2 _ _ => ?_, fun b o e => ?_, zd⟩, ?_⟩
    · obtain ⟨h1, _, h3⟩ := slots_get e
      cases i with
      | zero => have := h3 rfl; cases this
      | succ i =>
        obtain ⟨v, k1, k2⟩ := rl2.get (i := i) (show ds'[i]? = some d from h1)
        exact ⟨v, start_get (show (V.ref a :: vs')[i + 1]? = some v from k1), k2.avoid fun b z => .inl (av b z)⟩
    · obtain ⟨h1, h2, _⟩ := slots_get e
      obtain ⟨e1, _⟩ := h2 rfl
      subst e1
      cases h1
      exact ⟨a, es, ws, s0, .lst hH, rl1.avoid fun b z => .inl (av b z), nz, if_pos rfl⟩
    · rw [((slots_get e1).2.1 rfl).1, ((slots_get e2).2.1 rfl).1]
    · by_cases q : b = a
      · rw [if_pos q] at e; cases e
      · rw [if_neg q] at e; exact e
    · cases hb : b (slots0 true (D.lst es :: ds') ++ List.replicate (N.length - ps.length) none) with
      | bad => rw [hb] at h; exact h.elim
      | ex kk d ρ => rw [hb] at h; exact h.elim
      | ok r =>
        rw [hb] at h
        obtain ⟨fl, ρ'⟩ := r
        -- the end: the list of the first slot as it is then
        have fin : ∀ (fr : Bool) (v : V) (d : D) (σ' : St) (H' : Hp) (Qf : Prop), (true = true → σ'[0]? = (L2.start N (V.ref a :: vs'))[0]?) → R c σ' H' ρ' Z (fun b => if b = a then none else H b) → Val c σ' H' ρ' Z (fun b => if b = a then none else H b) fr v d →
            (match outs true ρ' with
              | some o => ∀ ws' es', But (· = a) H H' → o = [.lst es'] → H' a = some (.lst ws') → RepL c (fun b => (Z b ∨ b = a) ∨ (fr = true ∧ v = .ref b)) H' ws' es' → NewC c (fun b => Z b ∨ b = a) H H' fr v d → Qf
              | none => True) → (outs true ρ' ≠ none) → Qf := by
          intro fr v d σ' H' Qf hp R' V' hq hno
          have hp := hp rfl
          rw [s0] at hp
          unfold outs at hq hno
          rw [if_pos rfl] at hq hno
          split at hno
          case h_2 => exact absurd rfl hno
          rename_i d0 e0
          rw [e0] at hq
          obtain ⟨a', es', ws', k2, kC, k4, k5, k6⟩ := R'.own 0 _ e0
          obtain ⟨ee, k3⟩ := kC.toL
          rw [ee] at k4
          rw [hp] at k2
          cases k2
          have oa : Own σ' ρ' a := ⟨0, _, e0, hp⟩
          have avb : ∀ b, (Z b ∨ b = a) → Av σ' ρ' Z b := fun b z => z.imp id fun e => by rw [e]; exact oa
          refine hq ws' d0 (fun b o n e => R'.base b o (by rw [if_neg n]; exact e)) rfl k3 ?_ ?_
          · cases fr with
            | false => exact k4.avoid fun b z => .inl (z.elim (avb b) fun q => by cases q.1)
            | true =>
              obtain ⟨y, ds, xs, rfl, h3, h4, h5, h6, h7, h8⟩ := V'
              obtain ⟨a2, es2, ws2, q2, qC, q4, _, _⟩ := h8.own 0 _ e0
              obtain ⟨ee2, q3⟩ := qC.toL
              rw [ee2] at q4
              rw [hp] at q2; cases q2
              rw [k3] at q3; cases q3
              refine q4.avoid fun b z => .inl ?_
              rcases z with z | z
              · exact (avb b z).imp .inl id
              · have := z.2; cases this; exact .inl (.inr rfl)
          · cases fr with
            | false => exact Rep.avoid (fun b z => .inl (avb b z)) V'
            | true =>
              obtain ⟨y, ds, xs, rfl, h3, h4, h5, h6, h7, h8⟩ := V'
              have ya : y ≠ a := fun e => h6 (by rw [e]; exact oa)
              have h7 : H y = none := by rw [← h7]; exact (if_neg ya).symm
              exact ⟨y, ds, xs, rfl, h7, h3, h4.avoid fun b z => .inl (by
                rcases z with z | z
                · exact (avb b z).imp .inl id
                · exact .inl (.inr z))⟩
        cases fl with
        | nx =>
          intro σ' H' hp R'
          cases ho : outs true ρ' with
          | none => simp only [finF, ho] at h; exact h.elim
          | some o =>
            simp only [finF, ho] at h
            refine fin false .non .non σ' H' (Q .non H') hp R' .non ?_ (by rw [ho]; exact fun z => nomatch z)
            rw [ho]
            intro ws' es' k1 k2 k3 k4 k5
            exact h .non H' ws' es' k1 k2 k3 k4 k5
        | rt fr d =>
          intro v σ' H' hp R' V'
          cases ho : outs true ρ' with
          | none => simp only [finF, ho] at h; exact h.elim
          | some o =>
            simp only [finF, ho] at h
            refine fin fr v d σ' H' (Q v H') hp R' V' ?_ (by rw [ho]; exact fun z => nomatch z)
            rw [ho]
            intro ws' es' k1 k2 k3 k4 k5
            exact h v H' ws' es' k1 k2 k3 k4 k5
        | bk => exact h.elim
        | ct => exact h.elim
end
end U
namespace U
set_option autoImplicit false
open PySem PySem.Spec PyProof.Rows L2

/-! ### data as the library has them -/
mutual
def D.py : D → PyData
  | .non => .none
  | .bl b => .bool b
  | .int i => .int i
  | .str x => .str x
  | .tup ds => .tuple (D.pyL ds)
  | .lst ds => .list (D.pyL ds)
  | .dic _ _ => .none
  | .fn _ => .none
  | .exc _ _ => .none
  | .scr _ => .none
def D.pyL : List D → List PyData
  | [] => []
  | d :: ds => D.py d :: D.pyL ds
end
/-- plain data of a depth below n, texts as long as they may be -/
def D.okN : Nat → D → Bool
  | _, .non => true
  | _, .bl _ => true
  | _, .int _ => true
  | _, .str x => PyData.strOk x
  | n + 1, .tup ds => ds.all (D.okN n)
  | n + 1, .lst ds => ds.all (D.okN n)
  | _, _ => false
abbrev D.good (d : D) : Bool := D.okN 60 d
mutual
def eqD : D → D → Bool
  | .non, .non => true
  | .bl a, .bl b => a == b
  | .bl a, .int j => (if a then 1 else 0) == j
  | .int i, .bl b => i == (if b then 1 else 0)
  | .int i, .int j => i == j
  | .str x, .str y => x == y
  | .tup xs, .tup ys => eqDL xs ys
  | .lst xs, .lst ys => eqDL xs ys
  | _, _ => false
def eqDL : List D → List D → Bool
  | [], [] => true
  | x :: xs, y :: ys => eqD x y && eqDL xs ys
  | _, _ => false
end
theorem pyL_map : ∀ ds : List D, D.pyL ds = ds.map D.py
  | [] => rfl
  | d :: ds => by
    show D.py d :: D.pyL ds = _
    rw [pyL_map ds]; rfl
mutual
theorem eqD_py : ∀ (d e : D) (n m : Nat), D.okN n d = true → D.okN m e = true → PyData.eqv d.py e.py = eqD d e
  | .non, e, n, m, _, h => by cases e <;> first | rfl | (cases m <;> exact absurd h (by simp [D.okN]))
  | .bl a, e, n, m, _, h => by cases e <;> first | rfl | (cases m <;> exact absurd h (by simp [D.okN]))
  | .int a, e, n, m, _, h => by cases e <;> first | rfl | (cases m <;> exact absurd h (by simp [D.okN]))
  | .str a, e, n, m, _, h => by cases e <;> first | rfl | (cases m <;> exact absurd h (by simp [D.okN]))
  | .tup xs, e, n, m, h0, h => by
    cases e with
    | tup ys =>
      cases n with
      | zero => simp [D.okN] at h0
      | succ n =>
        cases m with
        | zero => simp [D.okN] at h
        | succ m =>
          unfold D.okN at h0 h
          show PyData.eqvAll (D.pyL xs) (D.pyL ys) = eqDL xs ys
          exact eqDL_py xs ys n m h0 h
    | _ => first | rfl | (cases m <;> exact absurd h (by simp [D.okN]))
  | .lst xs, e, n, m, h0, h => by
    cases e with
    | lst ys =>
      cases n with
      | zero => simp [D.okN] at h0
      | succ n =>
        cases m with
        | zero => simp [D.okN] at h
        | succ m =>
          unfold D.okN at h0 h
          show PyData.eqvAll (D.pyL xs) (D.pyL ys) = eqDL xs ys
          exact eqDL_py xs ys n m h0 h
    | _ => first | rfl | (cases m <;> exact absurd h (by simp [D.okN]))
  | .dic _ _, _, n, _, h, _ => by cases n <;> simp [D.okN] at h
  | .fn _, _, n, _, h, _ => by cases n <;> simp [D.okN] at h
  | .exc _ _, _, n, _, h, _ => by cases n <;> simp [D.okN] at h
  | .scr _, _, n, _, h, _ => by cases n <;> simp [D.okN] at h
theorem eqDL_py : ∀ (xs ys : List D) (n m : Nat), xs.all (D.okN n) = true → ys.all (D.okN m) = true → PyData.eqvAll (D.pyL xs) (D.pyL ys) = eqDL xs ys
  | [], [], _, _, _, _ => rfl
  | [], _ :: _, _, _, _, _ => rfl
  | _ :: _, [], _, _, _, _ => rfl
  | x :: xs, y :: ys, n, m, h0, h => by
    rw [List.all_cons, Bool.and_eq_true] at h0 h
    show (PyData.eqv x.py y.py && PyData.eqvAll (D.pyL xs) (D.pyL ys)) = (eqD x y && eqDL xs ys)
    rw [eqD_py x y n m h0.1 h.1, eqDL_py xs ys n m h0.2 h.2]
end
mutual
theorem ok_lay : ∀ (d : D) (n : Nat), D.okN n d = true → d.py.canLay0 = true ∧ d.py.depth ≤ n
  | .non, n, _ => ⟨rfl, Nat.zero_le _⟩
  | .bl _, n, _ => ⟨rfl, Nat.zero_le _⟩
  | .int _, n, _ => ⟨rfl, Nat.zero_le _⟩
  | .str x, n, h => ⟨by cases n <;> exact h, Nat.zero_le _⟩
  | .tup ds, n, h => by
    cases n with
    | zero => simp [D.okN] at h
    | succ n =>
      unfold D.okN at h
      obtain ⟨h1, h2⟩ := ok_layL ds n h
      exact ⟨h1, Nat.succ_le_succ h2⟩
  | .lst ds, n, h => by
    cases n with
    | zero => simp [D.okN] at h
    | succ n =>
      unfold D.okN at h
      obtain ⟨h1, h2⟩ := ok_layL ds n h
      exact ⟨h1, Nat.succ_le_succ h2⟩
  | .dic _ _, n, h => by cases n <;> simp [D.okN] at h
  | .fn _, n, h => by cases n <;> simp [D.okN] at h
  | .exc _ _, n, h => by cases n <;> simp [D.okN] at h
  | .scr _, n, h => by cases n <;> simp [D.okN] at h
theorem ok_layL : ∀ (ds : List D) (n : Nat), ds.all (D.okN n) = true → PyData.canLayAll0 (D.pyL ds) = true ∧ PyData.depthAll (D.pyL ds) ≤ n
  | [], n, _ => ⟨rfl, Nat.zero_le _⟩
  | d :: ds, n, h => by
    rw [List.all_cons, Bool.and_eq_true] at h
    obtain ⟨h1, h2⟩ := ok_lay d n h.1
    obtain ⟨h3, h4⟩ := ok_layL ds n h.2
    exact ⟨Bool.and_eq_true_iff.mpr ⟨h1, h3⟩, Nat.max_le.mpr ⟨h2, h4⟩⟩
end
theorem good_shaped {d : D} (h : d.good = true) : SeqAt.shaped d.py = true := by
  obtain ⟨h1, h2⟩ := ok_lay d 60 h
  exact Bool.and_eq_true_iff.mpr ⟨h1, decide_eq_true (Nat.le_trans h2 (by decide))⟩
mutual
theorem Rep.dp {c : Cc} {A : Addr → Prop} {H : Hp} : ∀ (d : D) (n : Nat) (v : V), D.okN n d = true → Rep c A H v d → Dp c.K H v d.py
  | .non, _, _, _, h => by cases h; exact .non
  | .bl b, _, _, _, h => by cases h; exact .bl b
  | .int i, _, _, _, h => by cases h; exact .int i
  | .str x, _, _, _, h => by cases h; exact .str x
  | .tup ds, n, _, k, h => by
    cases n with
    | zero => simp [D.okN] at k
    | succ n =>
      unfold D.okN at k
      cases h with
      | tup h1 h2 => exact .tup h1 (RepL.dp ds n _ k h2)
  | .lst ds, n, _, k, h => by
    cases n with
    | zero => simp [D.okN] at k
    | succ n =>
      unfold D.okN at k
      cases h with
      | lst h1 _ h2 => exact .lst (.inl (.inl h1)) (RepL.dp ds n _ k h2)
  | .dic _ _, n, _, k, _ => by cases n <;> simp [D.okN] at k
  | .fn _, n, _, k, _ => by cases n <;> simp [D.okN] at k
  | .exc _ _, _, _, _, h => by cases h
  | .scr _, n, _, k, _ => by cases n <;> simp [D.okN] at k
theorem RepL.dp {c : Cc} {A : Addr → Prop} {H : Hp} : ∀ (ds : List D) (n : Nat) (vs : List V), ds.all (D.okN n) = true → RepL c A H vs ds → DpAll c.K H vs (D.pyL ds)
  | [], _, _, _, h => by cases h; exact .nil
  | d :: ds, n, _, k, h => by
    rw [List.all_cons, Bool.and_eq_true] at k
    cases h with
    | cons h1 h2 => exact .cons (Rep.dp d n _ k.1 h1) (RepL.dp ds n _ k.2 h2)
end
theorem RepT.dp {c : Cc} {A : Addr → Prop} {H : Hp} {d : D} {v : V} (k : d.good = true) (h : RepT c A H v d) : Dp c.K H v d.py := by
  rcases h with h | ⟨a, ds, xs, rfl, h1, h2⟩
  · exact Rep.dp d 60 v k h
  · cases h1 with
    | lst h1 => exact .lst (.inl (.inl h1)) (RepL.dp ds 59 xs k h2)
    | dicK h1 _ => simp [D.good, D.okN] at k
    | dicT h1 _ _ => simp [D.good, D.okN] at k
section
variable {c : Cc} {A : Addr → Prop} {H : Hp} {v : V}
theorem repT_int {i : Int} (h : RepT c A H v (.int i)) : v = .int i := by
  rcases h with h | ⟨_, _, _, _, e, _⟩
  · cases h; rfl
  · cases e
theorem repT_str {x : Str} (h : RepT c A H v (.str x)) : v = .str x := by
  rcases h with h | ⟨_, _, _, _, e, _⟩
  · cases h; rfl
  · cases e
theorem repT_tup {ds : List D} (h : RepT c A H v (.tup ds)) : ∃ a xs, v = .ref a ∧ SqT c.K H a xs ∧ RepL c A H xs ds := by
  rcases h with h | ⟨_, _, _, _, e, _⟩
  · cases h with
    | tup h1 h2 => exact ⟨_, _, rfl, h1, h2⟩
  · cases e
theorem repT_lst {ds : List D} (h : RepT c A H v (.lst ds)) : ∃ a xs, v = .ref a ∧ H a = some (.lst xs) ∧ RepL c A H xs ds := by
  rcases h with h | ⟨a, ds', xs, e, h1, h2⟩
  · cases h with
    | lst h1 _ h2 => exact ⟨_, _, rfl, h1, h2⟩
  · obtain ⟨e2, hh⟩ := h1.toL
    rw [e2] at h2
    exact ⟨a, xs, e, hh, h2⟩
theorem new_self {d : D} (h : Rep c A H v d) : New c A H H false v d := ⟨Same.refl H, h⟩
theorem new_tup {xs : List V} {ds : List D} {p : Addr} (np : H p = none) (h : RepL c A H xs ds) : New c A H (upd H p (.tup xs)) false (.ref p) (.tup ds) := ⟨same_new np, .tup (.inl (.inl upd_same)) (RepL.same (same_new np) h)⟩
theorem new_lst {xs : List V} {ds : List D} {p : Addr} (np : H p = none) (h : RepL c A H xs ds) : New c A H (upd H p (.lst xs)) true (.ref p) (.lst ds) := ⟨same_new np, p, ds, xs, rfl, np, .lst upd_same, h⟩
end

/-! ### ints -/
def dI2 (C : Int → Int → Bool) (g : Int → Int → Int) : D → D → Option (Bool × D)
  | .int i, .int j => if C i j then some (false, .int (g i j)) else none
  | _, _ => none
def dB2 (g : Int → Int → Bool) : D → D → Option Bool
  | .int i, .int j => some (g i j)
  | _, _ => none
section
variable {c : Cc}
theorem gs_rI {C : Int → Int → Prop} {Cb : Int → Int → Bool} {g : Int → Int → Int} (h : ∀ i j, Cb i j = true → C i j) : GS2 c (dI2 Cb g) (rI C fun i j => .int (g i j)) := by
  intro A H x y d1 d2 fr d Q h1 h2 e k
  unfold dI2 at e
  split at e
  case h_2 => cases e
  rename_i i j
  split at e
  case isFalse => cases e
  rename_i hc
  cases e
  exact ⟨i, j, repT_int h1, repT_int h2, h i j hc, k _ H (new_self (.int _))⟩
theorem gs_rI0 {g : Int → Int → Int} : GS2 c (dI2 (fun _ _ => true) g) (rI0 fun i j => .int (g i j)) := by
  intro A H x y d1 d2 fr d Q h1 h2 e k
  unfold dI2 at e
  split at e
  case h_2 => cases e
  rename_i i j
  split at e
  case isFalse => cases e
  cases e
  exact ⟨i, j, repT_int h1, repT_int h2, k _ H (new_self (.int _))⟩
theorem gs_rB0 {g : Int → Int → Bool} : GS2 c (blO (dB2 g)) (rI0 fun i j => .bl (g i j)) := by
  intro A H x y d1 d2 fr d Q h1 h2 e k
  unfold blO dB2 at e
  split at e
  case h_2 => cases e
  rename_i i j
  cases e
  exact ⟨i, j, repT_int h1, repT_int h2, k _ H (new_self (.bl _))⟩
end
/-! ### +, *, -, //, %, ** -/
def dAdd : D → D → Option (Bool × D)
  | .int i, .int j => some (false, .int (i + j))
  | .str x, .str y => if x.length + y.length ≤ 16777216 then some (false, .str (x ++ y)) else none
  | .tup xs, .tup ys => if xs.length + ys.length ≤ 16777216 then some (false, .tup (xs ++ ys)) else none
  | .lst xs, .lst ys => if xs.length + ys.length ≤ 16777216 then some (true, .lst (xs ++ ys)) else none
  | _, _ => none
def bitsOf (i : Int) : Nat := i.natAbs.log2 + 1
def dMul : D → D → Option (Bool × D)
  | .int i, .int j => if bitsOf i + bitsOf j ≤ 1000000 then some (false, .int (i * j)) else none
  | .lst xs, .int k => if -(2 ^ 63) ≤ k ∧ k < 2 ^ 63 ∧ xs.length * k.toNat ≤ 16777216 then some (true, .lst (List.replicate k.toNat xs).flatten) else none
  | .tup xs, .int k => if xs ≠ [] ∧ 2 ≤ k ∧ k ≤ 1000 ∧ xs.length ≤ 1000 then some (false, .tup (List.replicate k.toNat xs).flatten) else none
  | _, _ => none
section
variable {X : Cx} {c : Cc}
theorem gs_add (hK : X.K = c.K) : GS2 c dAdd (fun x y H Q => rI0 (fun i j => .int (i + j)) x y H Q ∨ (∃ i j, x = .str i ∧ y = .str j ∧ i.length + j.length ≤ sizeLine ∧ Q (.str (i ++ j)) H) ∨ rCatA X.K x y H Q ∨ rCat x y H Q) := by
  intro A H x y d1 d2 fr d Q h1 h2 e k
  unfold dAdd at e
  split at e
  · rename_i i j
    cases e
    exact .inl ⟨i, j, repT_int h1, repT_int h2, k _ H (new_self (.int _))⟩
  · rename_i a b
    split at e
    case isFalse => cases e
    rename_i hl
    cases e
    exact .inr (.inl ⟨a, b, repT_str h1, repT_str h2, by rw [sizeLine_eq]; exact hl, k _ H (new_self (.str _))⟩)
  · rename_i xs ys
    split at e
    case isFalse => cases e
    rename_i hl
    cases e
    obtain ⟨a, us, rfl, ha, ra⟩ := repT_tup h1
    obtain ⟨b, ws, rfl, hb, rb⟩ := repT_tup h2
    refine .inr (.inr (.inl ⟨a, b, us, ws, rfl, rfl, by rw [hK]; exact ha, by rw [hK]; exact hb, by rw [sizeLine_eq, ra.len, rb.len]; exact hl, fun e => ?_, fun _ e => ?_, fun _ _ p np => ?_⟩))
    · subst e
      cases ra
      exact k _ H (new_self (.tup hb rb))
    · subst e
      cases rb
      rw [List.append_nil] at k
      exact k _ H (new_self (.tup ha ra))
    · exact k _ _ (new_tup np (ra.app rb))
  · rename_i xs ys
    split at e
    case isFalse => cases e
    rename_i hl
    cases e
    obtain ⟨a, us, rfl, ha, ra⟩ := repT_lst h1
    obtain ⟨b, ws, rfl, hb, rb⟩ := repT_lst h2
    exact .inr (.inr (.inr ⟨a, b, us, ws, rfl, rfl, ha, hb, by rw [sizeLine_eq, ra.len, rb.len]; exact hl, fun p np => k _ _ (new_lst np (ra.app rb))⟩))
  · cases e
theorem or_add : OpR X (binaryOp .Add) (fun x y H Q => rI0 (fun i j => .int (i + j)) x y H Q ∨ (∃ i j, x = .str i ∧ y = .str j ∧ i.length + j.length ≤ sizeLine ∧ Q (.str (i ++ j)) H) ∨ rCatA X.K x y H Q ∨ rCat x y H Q) :=
  op_add.or (op_add_str.or (op_catA.or op_cat))
theorem rep_len {α : Type} (xs : List α) : ∀ k : Nat, (List.replicate k xs).flatten.length = k * xs.length
  | 0 => by simp
  | k + 1 => by rw [List.replicate_succ, List.flatten_cons, List.length_append, rep_len xs k, Nat.succ_mul, Nat.add_comm]
theorem bits_ok {i j : Int} (h : bitsOf i + bitsOf j ≤ 1000000) : CMulW i j := by
  unfold bitsOf at h
  unfold CMulW
  omega
theorem gs_mul (hK : X.K = c.K) : GS2 c dMul (fun x y H Q => rI CMulW (fun i j => .int (i * j)) x y H Q ∨ rRep x y H Q ∨ rRepT X.K x y H Q) := by
  intro A H x y d1 d2 fr d Q h1 h2 e k
  unfold dMul at e
  split at e
  · rename_i i j
    split at e
    case isFalse => cases e
    rename_i hc
    cases e
    exact .inl ⟨i, j, repT_int h1, repT_int h2, bits_ok hc, k _ H (new_self (.int _))⟩
  · rename_i xs j
    split at e
    case isFalse => cases e
    rename_i hc
    cases e
    obtain ⟨a, us, rfl, ha, ra⟩ := repT_lst h1
    exact .inr (.inl ⟨a, j, us, rfl, repT_int h2, ha, hc.1, hc.2.1, by rw [sizeLine_eq, ra.len]; exact hc.2.2, fun p np => k _ _ (new_lst np (ra.rep _))⟩)
  · rename_i xs j
    split at e
    case isFalse => cases e
    rename_i hc
    cases e
    obtain ⟨a, us, rfl, ha, ra⟩ := repT_tup h1
    exact .inr (.inr ⟨a, j, us, rfl, repT_int h2, by rw [hK]; exact ha, fun e => hc.1 (by subst e; cases ra; rfl), hc.2.1, hc.2.2.1, by rw [ra.len]; exact hc.2.2.2, fun p np => k _ _ (new_tup np (ra.rep _))⟩)
  · cases e
theorem or_mul : OpR X (binaryOp .Mult) (fun x y H Q => rI CMulW (fun i j => .int (i * j)) x y H Q ∨ rRep x y H Q ∨ rRepT X.K x y H Q) := op_mulW.or (op_rep.or op_repT)
end
/-- //: a divisor that isn't 0, below 2 ^ 9000 -/
def dFdiv : D → D → Option (Bool × D) := dI2 (fun _ j => decide (j ≠ 0) && decide (j.natAbs.log2 < 9000)) Int.fdiv
def dMod : D → D → Option (Bool × D) := dI2 (fun _ j => decide (j ≠ 0)) Int.fmod
def dSub : D → D → Option (Bool × D) := dI2 (fun _ _ => true) (· - ·)
def dPow : D → D → Option (Bool × D) := dI2 (fun i j => decide (0 ≤ j) && decide (j ≤ 1000000) && decide (i.natAbs < 2 ^ 64)) fun i j => i ^ j.toNat
def CFdiv (_ j : Int) : Prop := j ≠ 0 ∧ j.natAbs.log2 < 9000
section
variable {X : Cx} {c : Cc}
theorem op_fdivX : OpR X (binaryOp .FloorDiv) (rI CFdiv fun i j => .int (i.fdiv j)) := opI fun i j _ _ _ _ _ hc q => floordiv_int hc.1 q (.inl (PyProof.noPylong_of_log2 hc.2))
theorem gs_fdiv : GS2 c dFdiv (rI CFdiv fun i j => .int (i.fdiv j)) := gs_rI fun i j h => by
  have := Bool.and_eq_true_iff.mp h
  exact ⟨of_decide_eq_true this.1, of_decide_eq_true this.2⟩
theorem gs_mod : GS2 c dMod (rI (fun _ j => j ≠ 0) fun i j => .int (i.fmod j)) := gs_rI fun i j h => of_decide_eq_true h
theorem gs_sub : GS2 c dSub (rI0 fun i j => .int (i - j)) := gs_rI0
theorem gs_pow : GS2 c dPow (rI CPow fun i j => .int (i ^ j.toNat)) := gs_rI fun i j h => by
  rw [Bool.and_eq_true, Bool.and_eq_true] at h
  exact ⟨of_decide_eq_true h.1.1, of_decide_eq_true h.1.2, of_decide_eq_true h.2⟩
end
/-- -x -/
def dNeg : D → Option (Bool × D)
  | .int i => some (false, .int (-i))
  | _ => none
section
variable {X : Cx} {c : Cc}
theorem gs_neg : GS1 c dNeg (rU fun i => .int (-i)) := by
  intro A H x d1 fr d Q h1 e k
  unfold dNeg at e
  split at e
  case h_2 => cases e
  cases e
  exact ⟨_, repT_int h1, k _ H (new_self (.int _))⟩
end

/-! ### comparisons -/
def dEq (x y : D) : Option Bool := if x.good && y.good then some (eqD x y) else none
def dNe (x y : D) : Option Bool := if x.good && y.good then some (!eqD x y) else none
def dInS (x y : D) : Option Bool := match y with
  | .tup ds => if x.good && D.good (.tup ds) then some (ds.any fun z => eqD z x) else none
  | .lst ds => if x.good && D.good (.lst ds) then some (ds.any fun z => eqD z x) else none
  | _ => none
def dNotInS (x y : D) : Option Bool := (dInS x y).map (!·)
section
variable {X : Cx} {c : Cc}
theorem gs_eq (hK : X.K = c.K) : GS2 c (blO dEq) (rEqD X.K) := by
  intro A H x y d1 d2 fr d Q h1 h2 e k
  unfold blO dEq at e
  split at e
  case isFalse => cases e
  rename_i hg
  obtain ⟨g1, g2⟩ := Bool.and_eq_true_iff.mp hg
  cases e
  refine ⟨d1.py, d2.py, by rw [hK]; exact h1.dp g1, by rw [hK]; exact h2.dp g2, good_shaped g1, good_shaped g2, ?_⟩
  rw [eqD_py d1 d2 60 60 g1 g2]
  exact k _ H (new_self (.bl _))
theorem gs_ne (hK : X.K = c.K) : GS2 c (blO dNe) (rNeD X.K) := by
  intro A H x y d1 d2 fr d Q h1 h2 e k
  unfold blO dNe at e
  split at e
  case isFalse => cases e
  rename_i hg
  obtain ⟨g1, g2⟩ := Bool.and_eq_true_iff.mp hg
  cases e
  refine ⟨d1.py, d2.py, by rw [hK]; exact h1.dp g1, by rw [hK]; exact h2.dp g2, good_shaped g1, good_shaped g2, ?_⟩
  rw [eqD_py d1 d2 60 60 g1 g2]
  exact k _ H (new_self (.bl _))
/-- x in t, t a tuple of data -/
def rInT (K : PySem.W.Frag) : R2 := fun x y H Q => ∃ d ds, Dp K H x d ∧ Dp K H y (.tuple ds) ∧ SeqAt.shaped d = true ∧ SeqAt.shaped (.tuple ds) = true ∧ Q (.bl (ds.any fun z => PyData.eqv z d)) H
def rNotInT (K : PySem.W.Frag) : R2 := fun x y H Q => ∃ d ds, Dp K H x d ∧ Dp K H y (.tuple ds) ∧ SeqAt.shaped d = true ∧ SeqAt.shaped (.tuple ds) = true ∧ Q (.bl (!ds.any fun z => PyData.eqv z d)) H
theorem room_inT {A : Around} {d : PyData} {ds : List PyData} (sd : SeqAt.shaped d = true) (hu : A.units + 65 < cLine) : A.units + 1 + min (PyData.depthAll ds) d.depth < cLine := by
  have h1 := SeqAt.depth_of_shaped sd
  have h2 : min (PyData.depthAll ds) d.depth ≤ d.depth := Nat.min_le_right _ _
  omega
theorem op_inT (hu : X.A.units + 65 < cLine) : OpR X (compareOp .In) (rInT X.K) := by
  intro pins s σ H x y v u Q I rx ry h
  obtain ⟨d, ds, hd, he, sd, se, q⟩ := h
  obtain ⟨as, r1⟩ := Dp.reads I d x v hd rx
  obtain ⟨bs, r2⟩ := Dp.reads I (.tuple ds) y u he ry
  exact SeqAt.in_tuple_reads r2 r1 (SeqAt.canLay_of_shaped se) (SeqAt.canLay_of_shaped sd) (room_inT sd hu) ⟨.bl _, H, I, rfl, q⟩
theorem op_notInT (hu : X.A.units + 65 < cLine) : OpR X (compareOp .NotIn) (rNotInT X.K) := by
  intro pins s σ H x y v u Q I rx ry h
  obtain ⟨d, ds, hd, he, sd, se, q⟩ := h
  obtain ⟨as, r1⟩ := Dp.reads I d x v hd rx
  obtain ⟨bs, r2⟩ := Dp.reads I (.tuple ds) y u he ry
  exact SeqAt.notIn_tuple_reads r2 r1 (SeqAt.canLay_of_shaped se) (SeqAt.canLay_of_shaped sd) (room_inT sd hu) ⟨.bl _, H, I, rfl, q⟩
theorem any_py {x : D} (hx : x.good = true) : ∀ {ds : List D} {n : Nat}, ds.all (D.okN n) = true → (D.pyL ds).any (fun z => PyData.eqv z x.py) = ds.any fun z => eqD z x
  | [], _, _ => rfl
  | d :: ds, n, h => by
    rw [List.all_cons, Bool.and_eq_true] at h
    show (PyData.eqv d.py x.py || (D.pyL ds).any _) = (eqD d x || ds.any _)
    rw [eqD_py d x n 60 h.1 hx, any_py hx h.2]
theorem gs_inS (hK : X.K = c.K) : GS2 c (blO dInS) (fun x y H Q => rInD X.K x y H Q ∨ rInT X.K x y H Q) := by
  intro A H x y d1 d2 fr d Q h1 h2 e k
  unfold blO dInS at e
  split at e
  · split at e
    case isFalse => cases e
    rename_i ds hg
    obtain ⟨g1, g2⟩ := Bool.and_eq_true_iff.mp hg
    cases e
    refine .inr ⟨d1.py, D.pyL ds, by rw [hK]; exact h1.dp g1, by rw [hK]; exact h2.dp g2, good_shaped g1, good_shaped g2, ?_⟩
    rw [any_py g1 (n := 59) g2]
    exact k _ H (new_self (.bl _))
  · split at e
    case isFalse => cases e
    rename_i ds hg
    obtain ⟨g1, g2⟩ := Bool.and_eq_true_iff.mp hg
    cases e
    refine .inl ⟨d1.py, D.pyL ds, by rw [hK]; exact h1.dp g1, by rw [hK]; exact h2.dp g2, good_shaped g1, good_shaped g2, ?_⟩
    rw [any_py g1 (n := 59) g2]
    exact k _ H (new_self (.bl _))
  · cases e
theorem gs_notInS (hK : X.K = c.K) : GS2 c (blO dNotInS) (fun x y H Q => rNotInD X.K x y H Q ∨ rNotInT X.K x y H Q) := by
  intro A H x y d1 d2 fr d Q h1 h2 e k
  unfold blO dNotInS dInS at e
  split at e
  · split at e
    case isFalse => cases e
    rename_i ds hg
    obtain ⟨g1, g2⟩ := Bool.and_eq_true_iff.mp hg
    cases e
    refine .inr ⟨d1.py, D.pyL ds, by rw [hK]; exact h1.dp g1, by rw [hK]; exact h2.dp g2, good_shaped g1, good_shaped g2, ?_⟩
    rw [any_py g1 (n := 59) g2]
    exact k _ H (new_self (.bl _))
  · split at e
    case isFalse => cases e
    rename_i ds hg
    obtain ⟨g1, g2⟩ := Bool.and_eq_true_iff.mp hg
    cases e
    refine .inl ⟨d1.py, D.pyL ds, by rw [hK]; exact h1.dp g1, by rw [hK]; exact h2.dp g2, good_shaped g1, good_shaped g2, ?_⟩
    rw [any_py g1 (n := 59) g2]
    exact k _ H (new_self (.bl _))
  · cases e
end
end U
namespace U
set_option autoImplicit false
open PySem PySem.Spec PyProof.Rows L2

/-! ### is -/
def D.isNon : D → Option Bool
  | .non => some true
  | .fn _ => none
  | _ => some false
def dIsN (x y : D) : Option Bool := match y with
  | .non => x.isNon
  | _ => none
def dIsNotN (x y : D) : Option Bool := (dIsN x y).map (!·)
def D.isB (b : Bool) : D → Option Bool
  | .bl a => some (a == b)
  | .fn _ => none
  | _ => some false
def dIsB (x y : D) : Option Bool := match y with
  | .bl b => x.isB b
  | _ => none
section
variable {X : Cx} {c : Cc}
theorem isNon_dec {A : Addr → Prop} {H : Hp} {v : V} {d : D} {b : Bool} (h : RepT c A H v d) (e : d.isNon = some b) : decide (v = .non) = b := by
  rcases h with h | ⟨a, ds, xs, rfl, hc, _⟩
  · cases h <;> first | (cases e; rfl) | cases e
  · cases hc <;> first | (cases e; rfl) | cases e
theorem gs_isN : GS2 c (blO dIsN) (fun x y H Q => y = .non ∧ Q (.bl (decide (x = .non))) H) := by
  intro A H x y d1 d2 fr d Q h1 h2 e k
  unfold blO dIsN at e
  split at e
  case h_2 => cases e
  cases hn : d1.isNon with
  | none => rw [hn] at e; cases e
  | some b =>
    rw [hn] at e
    cases e
    refine ⟨?_, ?_⟩
    · rcases h2 with h2 | ⟨_, _, _, _, z, _⟩
      · cases h2; rfl
      · cases z
    · rw [isNon_dec h1 hn]; exact k _ H (new_self (.bl _))
theorem gs_isNotN : GS2 c (blO dIsNotN) (fun x y H Q => y = .non ∧ Q (.bl (!decide (x = .non))) H) := by
  intro A H x y d1 d2 fr d Q h1 h2 e k
  unfold blO dIsNotN dIsN at e
  split at e
  case h_2 => cases e
  cases hn : d1.isNon with
  | none => rw [hn] at e; cases e
  | some b =>
    rw [hn] at e
    cases e
    refine ⟨?_, ?_⟩
    · rcases h2 with h2 | ⟨_, _, _, _, z, _⟩
      · cases h2; rfl
      · cases z
    · rw [isNon_dec h1 hn]; exact k _ H (new_self (.bl _))
/-- x is True, x is False -/
def rIsV : R2 := fun x y H Q => ∃ b : Bool, y = .bl b ∧ Q (.bl (decide (x = .bl b))) H
theorem op_isV : OpR X (compareOp .Is) rIsV := by
  intro pins s σ H x y v u Q I rx ry h
  obtain ⟨b, rfl, q⟩ := h
  cases (show u = Value.bool b from ry)
  have pl : PySem.plainIs v (.bool b) = true := by
    cases x with
    | non => cases rx; rfl
    | bl a => cases rx; rfl
    | int i => obtain ⟨t, rfl⟩ := rx; rfl
    | str z => obtain ⟨t, rfl⟩ := rx; rfl
    | byt z => obtain ⟨t, rfl⟩ := rx; rfl
    | flt z => obtain ⟨t, rfl⟩ := rx; rfl
    | ref a => cases rx; rfl
    | ty n => cases rx; rfl
  by_cases e : x = .bl b
  · subst e
    cases (show v = Value.bool b from rx)
    exact wpAny_is_self rfl ⟨.bl true, H, I, rfl, by simpa using q⟩
  · refine wpAny_is_other pl (fun z => e ?_) ⟨.bl false, H, I, rfl, by simpa [e] using q⟩
    subst z
    exact RelV.inj rx (show RelV (.bl b) (.bool b) from rfl)
theorem gs_isB : GS2 c (blO dIsB) rIsV := by
  intro A H x y d1 d2 fr d Q h1 h2 e k
  unfold blO dIsB at e
  split at e
  case h_2 => cases e
  rename_i b
  cases hn : d1.isB b with
  | none => rw [hn] at e; cases e
  | some r =>
    rw [hn] at e
    cases e
    refine ⟨b, repT_bl h2, ?_⟩
    have : decide (x = .bl b) = r := by
      rcases h1 with h1 | ⟨a, ds, xs, rfl, hc, _⟩
      · cases h1 with
        | bl a =>
          have hn : some (a == b) = some r := hn
          cases hn
          rw [Bool.eq_iff_iff]; simp
        | fn _ => cases hn
        | _ => cases hn; rfl
      · cases hc <;> first | (cases hn; rfl) | cases hn
    rw [this]
    exact k _ H (new_self (.bl _))
end

/-! ### len, abs, int, min, max, sum -/
def dLenS : List D → Option (Bool × D)
  | [.tup ds] => some (false, .int ds.length)
  | [.lst ds] => some (false, .int ds.length)
  | [.scr ns] => some (false, .int ns.length)
  | [.str x] => if x.length ≤ 16777216 then some (false, .int x.length) else none
  | _ => none
def dAbs : List D → Option (Bool × D)
  | [.int i] => some (false, .int (if i < 0 then -i else i))
  | _ => none
def dInt : List D → Option (Bool × D)
  | [.int i] => some (false, .int i)
  | _ => none
def dMax2 : List D → Option (Bool × D)
  | [.int i, .int j] => some (false, .int (if j > i then j else i))
  | _ => none
def dMin2 : List D → Option (Bool × D)
  | [.int i, .int j] => some (false, .int (if j < i then j else i))
  | _ => none
theorem repTs1 {c : Cc} {A : Addr → Prop} {H : Hp} {vs : List V} {d : D} (h : RepTs c A H vs [d]) : ∃ v, vs = [v] ∧ RepT c A H v d := by
  cases h with
  | cons h1 h2 => cases h2; exact ⟨_, rfl, h1⟩
theorem repTs2 {c : Cc} {A : Addr → Prop} {H : Hp} {vs : List V} {d e : D} (h : RepTs c A H vs [d, e]) : ∃ v w, vs = [v, w] ∧ RepT c A H v d ∧ RepT c A H w e := by
  cases h with
  | cons h1 h2 =>
    cases h2 with
    | cons h2 h3 => cases h3; exact ⟨_, _, rfl, h1, h2⟩
section
variable {X : Cx} {c : Cc}
theorem repT_scr {A : Addr → Prop} {H : Hp} {v : V} {ns : List Int} (h : RepT c A H v (.scr ns)) : ∃ a, v = .ref a ∧ SqL c.K H a (ns.map V.int) := by
  rcases h with h | ⟨_, _, _, _, e, _⟩
  · cases h with
    | scr h => exact ⟨_, rfl, h.sqL⟩
  · cases e
theorem gs_len (hK : X.K = c.K) : GSN c dLenS (fun xs H Q => ∃ x n, xs = [x] ∧ LenV X.K x H n ∧ Q (.int n) H) := by
  intro A H xs ds fr d Q h1 e k
  unfold dLenS at e
  split at e
  · cases e
    obtain ⟨v, rfl, h⟩ := repTs1 h1
    obtain ⟨a, us, rfl, h3, h4⟩ := repT_tup h
    exact ⟨_, us.length, rfl, .inr ⟨us, by rw [hK]; exact h3, rfl⟩, by rw [h4.len]; exact k _ H (new_self (.int _))⟩
  · cases e
    obtain ⟨v, rfl, h⟩ := repTs1 h1
    obtain ⟨a, us, rfl, h3, h4⟩ := repT_lst h
    exact ⟨_, us.length, rfl, .inl ⟨us, SqL.of h3, rfl⟩, by rw [h4.len]; exact k _ H (new_self (.int _))⟩
  · cases e
    obtain ⟨v, rfl, h⟩ := repTs1 h1
    obtain ⟨a, rfl, h3⟩ := repT_scr h
    rename_i ns
    exact ⟨_, (ns.map V.int).length, rfl, .inl ⟨_, by rw [hK]; exact h3, rfl⟩, by rw [List.length_map]; exact k _ H (new_self (.int _))⟩
  · split at e
    case isFalse => cases e
    rename_i hl
    cases e
    obtain ⟨v, rfl, h⟩ := repTs1 h1
    have := repT_str h
    subst this
    exact ⟨_, _, rfl, ⟨by rw [sizeLine_eq]; exact hl, rfl⟩, k _ H (new_self (.int _))⟩
  · cases e
theorem gs_abs : GSN c dAbs (fun xs H Q => ∃ i, xs = [.int i] ∧ Q (.int (if i < 0 then -i else i)) H) := by
  intro A H xs ds fr d Q h1 e k
  unfold dAbs at e
  split at e
  case h_2 => cases e
  cases e
  obtain ⟨v, rfl, h⟩ := repTs1 h1
  exact ⟨_, by rw [repT_int h], k _ H (new_self (.int _))⟩
theorem gs_int : GSN c dInt (fun xs H Q => (∃ i, xs = [.int i] ∧ Q (.int i) H) ∨ ∃ k, xs = [.bl k] ∧ Q (.int (if k then 1 else 0)) H) := by
  intro A H xs ds fr d Q h1 e k
  unfold dInt at e
  split at e
  case h_2 => cases e
  cases e
  obtain ⟨v, rfl, h⟩ := repTs1 h1
  exact .inl ⟨_, by rw [repT_int h], k _ H (new_self (.int _))⟩
theorem gs_max2 : GSN c dMax2 (fun xs H Q => ∃ i j, xs = [.int i, .int j] ∧ Q (.int (if j > i then j else i)) H) := by
  intro A H xs ds fr d Q h1 e k
  unfold dMax2 at e
  split at e
  case h_2 => cases e
  cases e
  obtain ⟨v, w, rfl, h, h'⟩ := repTs2 h1
  exact ⟨_, _, by rw [repT_int h, repT_int h'], k _ H (new_self (.int _))⟩
theorem gs_min2 : GSN c dMin2 (fun xs H Q => ∃ i j, xs = [.int i, .int j] ∧ Q (.int (if j < i then j else i)) H) := by
  intro A H xs ds fr d Q h1 e k
  unfold dMin2 at e
  split at e
  case h_2 => cases e
  cases e
  obtain ⟨v, w, rfl, h, h'⟩ := repTs2 h1
  exact ⟨_, _, by rw [repT_int h, repT_int h'], k _ H (new_self (.int _))⟩
end
/-- list(x), tuple(x) of a sequence -/
def dListS : List D → Option (Bool × D)
  | [.tup ds] => some (true, .lst ds)
  | [.lst ds] => some (true, .lst ds)
  | _ => none
def dTuple : List D → Option (Bool × D)
  | [.tup ds] => some (false, .tup ds)
  | [.lst ds] => some (false, .tup ds)
  | _ => none
section
variable {X : Cx} {c : Cc}
theorem gs_listS (hK : X.K = c.K) : GSN c dListS (fun xs H Q => ∃ p ys, xs = [.ref p] ∧ (SqL X.K H p ys ∨ SqT X.K H p ys) ∧ ∀ l, H l = none → Q (.ref l) (upd H l (.lst ys))) := by
  intro A H xs ds fr d Q h1 e k
  unfold dListS at e
  split at e
  · cases e
    obtain ⟨v, rfl, h⟩ := repTs1 h1
    obtain ⟨a, us, rfl, h3, h4⟩ := repT_tup h
    exact ⟨a, us, rfl, .inr (by rw [hK]; exact h3), fun l nl => k _ _ (new_lst nl h4)⟩
  · cases e
    obtain ⟨v, rfl, h⟩ := repTs1 h1
    obtain ⟨a, us, rfl, h3, h4⟩ := repT_lst h
    exact ⟨a, us, rfl, .inl (SqL.of h3), fun l nl => k _ _ (new_lst nl h4)⟩
  · cases e
theorem gs_tuple (hK : X.K = c.K) : GSN c dTuple (fun xs H Q => ∃ p ys, xs = [.ref p] ∧ ((SqL X.K H p ys ∧ ∀ l, H l = none → Q (.ref l) (upd H l (.tup ys))) ∨ (SqT X.K H p ys ∧ Q (.ref p) H))) := by
  intro A H xs ds fr d Q h1 e k
  unfold dTuple at e
  split at e
  · cases e
    obtain ⟨v, rfl, h⟩ := repTs1 h1
    obtain ⟨a, us, rfl, h3, h4⟩ := repT_tup h
    exact ⟨a, us, rfl, .inr ⟨by rw [hK]; exact h3, k _ _ (new_self (.tup h3 h4))⟩⟩
  · cases e
    obtain ⟨v, rfl, h⟩ := repTs1 h1
    obtain ⟨a, us, rfl, h3, h4⟩ := repT_lst h
    exact ⟨a, us, rfl, .inl ⟨SqL.of h3, fun l nl => k _ _ (new_tup nl h4)⟩⟩
  · cases e
end

/-! ### items, slices -/
def dIxS (x y : D) : Option (Bool × D) := match y with
  | .int i => match x with
    | .tup ds => (atI ds i).map fun d => (false, d)
    | .lst ds => (atI ds i).map fun d => (false, d)
    | .scr ns => (atI ns i).map fun n => (false, .int n)
    | _ => none
  | _ => none
section
variable {X : Cx} {c : Cc}
theorem atI_rep {A : Addr → Prop} {H : Hp} {vs : List V} {ds : List D} {i : Int} {d : D} (h : RepL c A H vs ds) (e : atI ds i = some d) : ∃ v, atI vs i = some v ∧ Rep c A H v d := by
  unfold atI at e ⊢
  rw [h.len]
  cases q : ixN ds.length i with
  | none => rw [q] at e; cases e
  | some j =>
    rw [q] at e
    obtain ⟨v, h1, h2⟩ := h.get (show ds[j]? = some d from e)
    exact ⟨v, h1, h2⟩
theorem gs_ix (hK : X.K = c.K) : GS2 c dIxS (rIx X.K) := by
  intro A H x y d1 d2 fr d Q h1 h2 e k
  unfold dIxS at e
  split at e
  case h_2 => cases e
  rename_i i
  have hy := repT_int h2
  split at e
  · rename_i ds
    cases q : atI ds i with
    | none => rw [q] at e; cases e
    | some z =>
      rw [q] at e
      cases e
      obtain ⟨a, us, rfl, h3, h4⟩ := repT_tup h1
      obtain ⟨v, h5, h6⟩ := atI_rep h4 q
      exact .inr (.inl ⟨a, us, i, v, rfl, hy, by rw [hK]; exact h3, h5, k _ H (new_self h6)⟩)
  · rename_i ds
    cases q : atI ds i with
    | none => rw [q] at e; cases e
    | some z =>
      rw [q] at e
      cases e
      obtain ⟨a, us, rfl, h3, h4⟩ := repT_lst h1
      obtain ⟨v, h5, h6⟩ := atI_rep h4 q
      exact .inl ⟨a, us, i, v, rfl, hy, SqL.of h3, h5, k _ H (new_self h6)⟩
  · rename_i ns
    cases q : atI ns i with
    | none => rw [q] at e; cases e
    | some z =>
      rw [q] at e
      cases e
      obtain ⟨a, rfl, h3⟩ := repT_scr h1
      refine .inl ⟨a, ns.map V.int, i, .int z, rfl, hy, by rw [hK]; exact h3, ?_, k _ H (new_self (.int _))⟩
      unfold atI at q ⊢
      rw [List.length_map]
      cases q2 : ixN ns.length i with
      | none => rw [q2] at q; cases q
      | some j =>
        rw [q2] at q
        show (ns.map V.int)[j]? = _
        rw [List.getElem?_map, show ns[j]? = some z from q]
        rfl
  · cases e
end
def cutD (ds : List D) (lo hi : Option Int) : List D := (ds.drop (HT.sIx ds.length 0 lo)).take (HT.sIx ds.length ds.length hi - HT.sIx ds.length 0 lo)
def dSl (lo hi : Option Int) : D → Option (Bool × D)
  | .tup ds => some (false, .tup (cutD ds lo hi))
  | .lst ds => some (true, .lst (cutD ds lo hi))
  | _ => none
def fSlP : Option EF → En → O (Option Int × En)
  | none, ρ => .ok (none, ρ)
  | some f, ρ => (f ρ).bind fun r => match r.2.1 with
    | .int i => .ok (some i, r.2.2)
    | _ => .bad
def fSl (p : Pk) (lo hi : Option EF) : EF := fun ρ => (p.ev ρ).bind fun a => (fSlP lo a.2).bind fun l => (fSlP hi l.2).bind fun h => match p.get a.1 h.2 with
  | some d => match dSl l.1 h.1 d with
    | some r => .ok (r.1, r.2, h.2)
    | none => .bad
  | none => .bad
def liftO (c : Cc) (E : XK) (of : Option EF) : TO := fun σ H Q => ∃ ρ Z B, R c σ H ρ Z B ∧ (fSlP of ρ).sat (fun r => ∀ H', R c σ H' r.2 Z B → Q r.1 H') (XW c E σ Z B)
structure DO (X : Cx) (c : Cc) (E : XK) (e : Option Expr) (of : Option EF) : Prop where
  po : PO X e (liftO c E of)
theorem po_imp {X : Cx} {e : Option Expr} {t t' : TO} (h : PO X e t) (k : ∀ σ H Q, t' σ H Q → t σ H Q) : PO X e t' := ⟨fun pins s σ H Q I q => h.run pins s σ H Q I (k σ H Q q)⟩
section
variable {X : Cx} {c : Cc} {E : XK} {e : Expr} {f : EF} {p : Pk} {lo hi : Option Expr} {fl fh : Option EF} {pos p2 : Pos}
theorem do_none : DO X c E none none := ⟨po_imp po_none fun σ H Q ⟨ρ, Z, B, r, q⟩ => q H r⟩
theorem do_some (h : DE X c E e f) : DO X c E (some e) (some f) := by
  refine ⟨po_imp (po_some h.pe) fun σ H Q ⟨ρ, Z, B, r0, q⟩ => ⟨ρ, Z, B, r0, O.sat_then (o := f ρ) q (fun r hr v H' R' V' => ?_) fun _ _ _ h => h⟩⟩
  split at hr
  case h_2 => exact hr.elim
  rename_i i e1
  have hv : v = .int i := repT_int (.inl (e1 ▸ V'.rep))
  exact ⟨i, hv, hr H' R'⟩
theorem cut_rep {A : Addr → Prop} {H : Hp} {vs : List V} {ds : List D} (h : RepL c A H vs ds) (lo hi : Option Int) : RepL c A H (cutV vs lo hi) (cutD ds lo hi) := by
  unfold cutV cutD
  rw [h.len]
  exact (h.drop _).take _
theorem cutD_all {ds : List D} {lo hi : Option Int} (h : HT.sIx ds.length 0 lo = 0 ∧ HT.sIx ds.length ds.length hi = ds.length) : cutD ds lo hi = ds := by
  unfold cutD
  rw [h.1, h.2, List.drop_zero, Nat.sub_zero, List.take_length]
theorem de_slice (hK : X.K = c.K) (he : DP X c E e p) (hl : DO X c E lo fl) (hh : DO X c E hi fh) : DE X c E (.Subscript e (.Slice lo hi none p2) pos) (fSl p fl fh) := by
  refine ⟨pe_imp (pe_slice (sl_list.or sl_tupA) he.pe hl.po hh.po) fun σ H Q ⟨ρ, Z, B, r0, q⟩ => ⟨ρ, Z, B, r0, O.sat_then (o := p.ev ρ) q (fun a ha v H1 R1 V1 => ?_) fun _ _ _ h => h⟩⟩
  refine ⟨a.2, Z, hull σ a.2 H1, R1.strong, O.sat_then ha (fun l hl' H2 R2 => ?_) fun _ _ _ h => XW.weak R1.hull_le h⟩
  refine ⟨l.2, Z, hull σ a.2 H1, R2, O.sat_then hl' (fun h hh' H3 R3 => ?_) fun _ _ _ h => XW.weak R1.hull_le h⟩
  cases e1 : p.get a.1 h.2 with
  | none => rw [e1] at hh'; exact hh'.elim
  | some d =>
    rw [e1] at hh'
    dsimp only at hh'
    have rt := (V1.keep R1 R3).fin R3 e1
    cases e2 : dSl l.1 h.1 d with
    | none => rw [e2] at hh'; exact hh'.elim
    | some r =>
      rw [e2] at hh'
      have fin : ∀ v H', New c (Av σ h.2 Z) H3 H' r.1 v r.2 → Q v H' := fun v H' n => by
        obtain ⟨k1, k2⟩ := (R3.weak R1.hull_le).new n
        exact hh' v H' k1 k2
      unfold dSl at e2
      split at e2
      · rename_i ds
        cases e2
        obtain ⟨b, us, rfl, h3, h4⟩ := repT_tup rt
        refine .inr ⟨b, us, rfl, by rw [hK]; exact h3, fun hw => ?_, fun _ q np => ?_⟩
        · rw [h4.len] at hw
          have := fin (.ref b) H3 (new_self (d := .tup (cutD ds l.1 h.1)) (by rw [cutD_all hw]; exact .tup h3 h4))
          exact this
        · exact fin _ _ (new_tup np (cut_rep h4 _ _))
      · rename_i ds
        cases e2
        obtain ⟨b, us, rfl, h3, h4⟩ := repT_lst rt
        exact .inl ⟨b, us, rfl, SqL.of h3, fun q np => fin _ _ (new_lst np (cut_rep h4 _ _))⟩
      · cases e2
end
end U
namespace U
set_option autoImplicit false
open PySem PySem.Spec PyProof.Rows L2

/-! ### x[::-1] -/
section
variable {prog : Program} {w : World} {A : Around} {E : Value → Shared → Prop} {s : Shared}
theorem sliceApplied_rev {sl : Addr} {vl vu vs : Value} {n : Nat} {Q : Int × Int × Nat → Shared → Prop} (hs : s.heap.IsSliceOf sl vl vu vs) (pl : IsPart vl none) (pu : IsPart vu none) (ps : IsPart vs (some (-1)))
    (h : Q ((n : Int) - 1, -1, n) s) : wpAny (model prog w) A (Builtin.Slice.sliceApplied (.ref sl) (pure (n : Int))) Q E s := by
  obtain ⟨os, hos, hcs, hds⟩ := id hs
  unfold Builtin.Slice.sliceApplied Builtin.Slice.sliceFields
  refine wpAny_bind (wpAny_bind (wpAny_field hos hds (x := vl) rfl (wpAny_bind (wpAny_field hos hds (x := vu) rfl (wpAny_bind (wpAny_field hos hds (x := vs) rfl (wpAny_pure ?_)))))))
  refine wpAny_bind (HT.slicePart_ ps ?_)
  show wpAny _ _ (if ((-1 : Int) == 0) = true then _ else _) _ _ s
  rw [if_neg (by decide)]
  refine wpAny_bind (HT.slicePart_ pl (wpAny_bind (HT.slicePart_ pu (wpAny_bind (wpAny_pure ?_)))))
  show wpAny _ _ (match Builtin.Slice.sliceAdjust none none (-1) (n : Int) with | (lo, hi) => pure (lo, (-1 : Int), Builtin.Slice.slicePlaces lo hi (-1))) _ _ s
  have e1 : Builtin.Slice.sliceAdjust none none (-1) (n : Int) = ((n : Int) - 1, -1) := by
    unfold Builtin.Slice.sliceAdjust
    simp
  rw [e1]
  have e2 : Builtin.Slice.slicePlaces ((n : Int) - 1) (-1) (-1) = n := by
    unfold Builtin.Slice.slicePlaces
    have h1 : ¬ ((-1 : Int) > 0) := by decide
    simp only [h1, if_false]
    split <;> simp <;> omega
  show wpAny _ _ (pure ((n : Int) - 1, (-1 : Int), Builtin.Slice.slicePlaces ((n : Int) - 1) (-1) (-1))) _ _ s
  rw [e2]
  exact wpAny_pure h
theorem pick_rev (xs : Array Value) : ((List.range xs.size).filterMap fun (m : Nat) => xs[((xs.size : Int) - 1 + (m : Int) * (-1)).toNat]?).toArray = xs.toList.reverse.toArray := by
  have e : (fun (m : Nat) => xs[((xs.size : Int) - 1 + (m : Int) * (-1)).toNat]?) = fun m => xs[xs.size - 1 - m]? := by
    funext m
    have : ((xs.size : Int) - 1 + (m : Int) * (-1)).toNat = xs.size - 1 - m := by omega
    rw [this]
  rw [e]
  have e2 : (fun m => xs[xs.size - 1 - m]?) = (fun x => xs[x]?) ∘ fun m => xs.size - 1 - m := rfl
  rw [e2, ← List.filterMap_map, PySem.W.krv_range, List.filterMap_reverse, PySem.W.krv_all]
theorem getItem_tuple_rev {t sl : Addr} {items : Array Value} {vl vu vs : Value} {Q : Value → Shared → Prop} (ht : IsTup s.heap t items) (hs : s.heap.IsSliceOf sl vl vu vs) (pl : IsPart vl none) (pu : IsPart vu none) (ps : IsPart vs (some (-1)))
    (h : Q (.ref s.heap.objs.size) { s with heap := s.heap.push { cls := .type "tuple", data := .seq items.toList.reverse.toArray } })
    (hsz : items.size ≤ sizeLine) : wpAny (model prog w) A (getItem (.ref t) (.ref sl)) Q E s := by
  have htake : sizeOk (.seq items.toList.reverse.toArray) := by
    show items.toList.reverse.toArray.size ≤ sizeLine
    rw [List.size_toArray, List.length_reverse, Array.length_toList]
    exact hsz
  obtain ⟨os, hos, hcs, hds⟩ := id hs
  have hTs : s.TypeIs (.ref sl) "slice" := ⟨os, hos, hcs⟩
  unfold getItem
  try with_reducible refine wpAny_holding ?_
  first | refine wpAny_bind (wpAny_pure ?_) | skip
  refine wpAny_bind (wpAny_sequenceKey ht.typeIs (by decide) ?_)
  refine wpAny_bind (wpAny_callSpecial?_slot (name := Str.ofString "__getitem__") ht.typeIs PyProof.Rows.slot_tuple_getitem
    (wpAny_call_entry PyProof.Rows.slot_tuple_getitem ht.typeIs entry_tuple_getitem ?_ (args_tuple_getitem _ _)))
  show wpAny _ _ (Builtin.Tuple.tupleItemsOf (.ref t) >>= _) _ _ s
  refine wpAny_bind (tupleItemsOf_ ht ?_)
  refine wpAny_bind (wpAny_typeOf hTs ?_)
  rw [if_pos (by decide)]
  refine wpAny_bind (sliceApplied_rev hs pl pu ps ?_)
  have hno : ¬ ((((items.size : Int) - 1) == 0 && (-1 : Int) == 1 && items.size == items.size) = true) := by
    intro q
    rw [Bool.and_eq_true, Bool.and_eq_true] at q
    exact absurd q.1.2 (by decide)
  show wpAny _ _ (if (((items.size : Int) - 1) == 0 && (-1 : Int) == 1 && items.size == items.size) = true then _ else _) _ _ s
  rw [if_neg hno, pick_rev]
  first
    | exact wpAny_bind (m := Builtin.Tuple.tupleExact _) (wpAny_newObj_type (wpAny_pure ⟨_, rfl, wpAny_pure h⟩) htake)
    | exact wpAny_bind (m := Builtin.Tuple.tupleExact _) (wpAny_newObj_type (wpAny_bind (wpAny_pure (wpAny_pure ⟨_, rfl, wpAny_pure h⟩))) htake)
    | exact wpAny_bind (wpAny_bind (m := Builtin.Tuple.tupleExact _) (wpAny_newObj_type (wpAny_pure (wpAny_pure ⟨_, rfl, wpAny_pure h⟩)) htake))
    | exact wpAny_bind (wpAny_bind (m := Builtin.Tuple.tupleExact _) (wpAny_newObj_type (wpAny_pure ⟨_, rfl, wpAny_pure h⟩) htake))
end
section
variable {X : Cx} {c : Cc} {E : XK} {e : Expr} {p : Pk} {pos : Pos}
def tRevT (K : PySem.W.Frag) (te : TE) : TE := fun σ H Q => te σ H fun x H1 => ∃ a xs, x = .ref a ∧ SqT K H1 a xs ∧ ∀ p, H1 p = none → Q (.ref p) (upd H1 p (.tup xs.reverse))
theorem pe_revT {e : Expr} {te : TE} {k : Nat} {p1 p2 p3 pos : Pos} (he : PE X e te) : PE X (.Subscript e (.Slice none none (some (.UnaryOp .USub (.Constant (.int 1) k p1) p2)) p3) pos) (tRevT X.K te) := by
  refine ⟨fun pins s σ H Q I h => ?_⟩
  refine Subscript_ (thn (he.run pins s σ H _ I h) fun v s1 ⟨x, H1, I1, r1, q1⟩ => ?_)
  obtain ⟨a, xs, ex, hx, q⟩ := q1
  subst ex
  cases r1
  have hst : PO X (some (.UnaryOp .USub (.Constant (.int 1) k p1) p2)) (tPart (tUn (rU fun i => .int (-i)) (tC (.int 1)))) := po_some (pe_un un_neg pe_int)
  refine wpAny_Slice (thn (po_none.run pins s1 σ H1 (fun o H2 => o = none ∧ H2 = H1) I1 ⟨rfl, rfl⟩) fun vl s2 ⟨l, H2, I2, pl, el, e2⟩ => ?_)
  subst el e2
  refine thn (po_none.run pins s2 σ H2 (fun o H3 => o = none ∧ H3 = H2) I2 ⟨rfl, rfl⟩) fun vu s3 ⟨u, H3, I3, pu, eu, e3⟩ => ?_
  subst eu e3
  refine thn (hst.run pins s3 σ H3 (fun o H4 => o = some (-1) ∧ H4 = H3) I3 ⟨1, rfl, -1, rfl, rfl, rfl⟩) fun vs s4 ⟨o, H4, I4, ps, eo, e4⟩ => ?_
  subst eo e4
  have I5 : Inv X pins σ H4 { s4 with heap := s4.heap.push { cls := .type "slice", data := .fields #[vl, vu, vs] } } := I4.kept (t' := s4.toks) fun b ob q => Heap.get?_push_of_some _ q
  obtain ⟨its, r, ht, hz⟩ := I5.tuple hx
  have hlen := r.length
  show wpAny (model X.prog X.w) X.A (subscriptTail e (.Slice none none (some (.UnaryOp .USub (.Constant (.int 1) k p1) p2)) p3) (.ref a) (.ref s4.heap.objs.size)) (EP X pins σ Q) X.xe { s4 with heap := s4.heap.push { cls := .type "slice", data := .fields #[vl, vu, vs] } }
  refine tail_any (ops := [.ref a, .ref s4.heap.objs.size]) ht.typeIs (PyProof.Rows.slot_tuple_getitem.lookup) ?_ (by with_unfolding_all rfl)
  refine getItem_tuple_rev ht (Heap.IsSliceOf.new _ vl vu vs) pl pu ps ?_ (by rw [List.size_toArray]; omega)
  refine ⟨.ref _, _, I5.laid (t' := s4.toks) (o := .tup xs.reverse) (fun b ob q => Heap.get?_push_of_some _ q) (Nat.le_refl _) ?_, rfl, q _ (I5.hok.fresh (Nat.le_refl _))⟩
  exact ⟨by rw [List.length_reverse]; exact hz, _, r.reverse, IsTup.new _ _⟩
theorem pe_or' {t t' : TE} (h : PE X e t) (h' : PE X e t') : PE X e (fun σ H Q => t σ H Q ∨ t' σ H Q) := ⟨fun pins s σ H Q I q => by
  rcases q with q | q
  · exact h.run pins s σ H Q I q
  · exact h'.run pins s σ H Q I q⟩
def dRev : D → Option (Bool × D)
  | .tup ds => some (false, .tup ds.reverse)
  | .lst ds => some (true, .lst ds.reverse)
  | _ => none
theorem de_rev {k : Nat} {p1 p2 p3 : Pos} (hK : X.K = c.K) (he : DP X c E e p) : DE X c E (.Subscript e (.Slice none none (some (.UnaryOp .USub (.Constant (.int 1) k p1) p2)) p3) pos) (op1 dRev p) := by
  refine ⟨pe_imp (pe_or' (pe_revL he.pe) (pe_revT he.pe)) fun σ H Q ⟨ρ, Z, B, r0, h⟩ => ?_⟩
  have main : ∀ a : Option D × En, (match p.get a.1 a.2 with
      | some x => match dRev x with
        | some r => O.ok (r.1, r.2, a.2)
        | none => .bad
      | none => .bad : O (Bool × D × En)).sat (fun r => ∀ v H', R c σ H' r.2.2 Z B → Val c σ H' r.2.2 Z B r.1 v r.2.1 → Q v H') (XW c E σ Z B) → ∃ d, p.get a.1 a.2 = some d ∧ ((∃ ds, d = .tup ds ∧ ∀ v H', R c σ H' a.2 Z B → Val c σ H' a.2 Z B false v (.tup ds.reverse) → Q v H') ∨ (∃ ds, d = .lst ds ∧ ∀ v H', R c σ H' a.2 Z B → Val c σ H' a.2 Z B true v (.lst ds.reverse) → Q v H')) := by
    intro a ha
    cases e1 : p.get a.1 a.2 with
    | none => rw [e1] at ha; exact ha.elim
    | some d =>
      rw [e1] at ha
      refine ⟨d, rfl, ?_⟩
      cases d with
      | tup ds => exact .inl ⟨ds, rfl, ha⟩
      | lst ds => exact .inr ⟨ds, rfl, ha⟩
      | _ => exact ha.elim
  unfold op1 at h
  cases hev : p.ev ρ with
  | bad => rw [hev] at h; exact h.elim
  | ex kk d ρ' =>
    rw [hev] at h
    refine .inl ⟨ρ, Z, B, r0, ?_⟩
    rw [hev]; exact h
  | ok a =>
    rw [hev] at h
    obtain ⟨d, e1, h1 | h1⟩ := main a h
    · obtain ⟨ds, rfl, fin⟩ := h1
      refine .inr ⟨ρ, Z, B, r0, ?_⟩
      rw [hev]
      intro v H1 R1 V1
      obtain ⟨b, us, rfl, h3, h4⟩ := repT_tup (V1.fin R1 e1)
      refine ⟨b, us, rfl, by rw [hK]; exact h3, fun q np => ?_⟩
      obtain ⟨k1, k2⟩ := R1.new (new_tup np h4.rev)
      exact fin _ _ k1 k2
    · obtain ⟨ds, rfl, fin⟩ := h1
      refine .inl ⟨ρ, Z, B, r0, ?_⟩
      rw [hev]
      intro v H1 R1 V1
      obtain ⟨b, us, rfl, h3, h4⟩ := repT_lst (V1.fin R1 e1)
      refine ⟨b, us, rfl, SqL.of h3, fun q np => ?_⟩
      obtain ⟨k1, k2⟩ := R1.new (new_lst np h4.rev)
      exact fin _ _ k1 k2
end

/-! ### isinstance -/
def D.ty : D → Option String
  | .non => some "NoneType"
  | .bl _ => some "bool"
  | .int _ => some "int"
  | .str _ => some "str"
  | .tup _ => some "tuple"
  | .lst _ => some "list"
  | .scr _ => none
  | _ => none
/-- isinstance(x, T), T one of tuple, list, int, bool, str -/
def isTy (T : String) (t : String) : Bool := t == T || (t == "bool" && T == "int")
def dIsi (T : String) (d : D) : Option (Bool × D) := d.ty.map fun t => (false, .bl (isTy T t))
def dIsi2 (T T' : String) (d : D) : Option (Bool × D) := d.ty.map fun t => (false, .bl (isTy T t || isTy T' t))
section
variable {X : Cx} {c : Cc} {E : XK} {e : Expr} {p : Pk}
theorem tyX_of {A : Addr → Prop} {H : Hp} {v : V} {d : D} {t : String} (h : RepT c A H v d) (e : d.ty = some t) : TyX c.K H v (.type t) := by
  rcases h with h | ⟨a, ds, xs, rfl, h1, h2⟩
  · cases h with
    | non => cases e; exact .base .non
    | bl b => cases e; exact .base (.bl b)
    | int i => cases e; exact .base (.int i)
    | str x => cases e; exact .base (.str x)
    | tup h1 h2 =>
      cases e
      rcases h1 with (h1 | ⟨o, h1⟩) | ⟨o, its, n, h1, h2, _⟩
      · exact .base (.tup h1)
      · exact .fTuple h1
      · exact .kTuple h1 h2
    | lst h1 h2 h3 => cases e; exact .base (.lst h1)
    | dicK _ _ _ _ => cases e
    | dicT _ _ _ _ _ _ => cases e
    | fn h => cases e
    | scr h => cases e
  · cases h1 with
    | lst h1 => cases e; exact .base (.lst h1)
    | dicK _ _ => cases e
    | dicT _ _ _ => cases e
theorem kit_is {K : PySem.W.Frag} {T : String} (hT : ∀ t ∈ ["NoneType", "bool", "int", "str", "tuple", "list"], kitB t T = some (isTy T t)) {d : D} {t : String} (e : d.ty = some t) : PySem.W.kitOne K (.type t) (.type T) = some (isTy T t) := by
  refine kit_ty (hT t ?_)
  cases d <;> first | (cases e; simp; done) | cases e
theorem de_isi {T : Str} {Ts : String} {p1 p2 p3 : Pos} (he : DP X c E e p) (hK : X.K = c.K) (hg : Gl X "isinstance") (hm : X.mg "isinstance" = none) (hgT : Gl X T) (hmT : X.mg T = none) (hv : bootBuiltins T = some (.type Ts)) (hn : T ≠ "__name__")
    (hT : ∀ t ∈ ["NoneType", "bool", "int", "str", "tuple", "list"], kitB t Ts = some (isTy Ts t)) (hd : (T == ("__debug__" : Str)) = false)
    (hs : starEach [e, .Name T p2] X.env = (false, eval e X.env) :: starEach [.Name T p2] X.env := by rfl) (hs2 : starEach [.Name T p2] X.env = (false, eval (.Name T p2) X.env) :: starEach [] X.env := by rfl) (hpl : (backTo p3 (starEach [.Name T p2] X.env)).any (·.1) = false := by rfl) :
    DE X c E (.Call (.Name "isinstance" p1) [e, .Name T p2] [] p3) (op1 (dIsi Ts) p) := by
  refine ⟨pe_imp (pe_callB call_isi hg hm (by decide +kernel) (pa_cons he.pe (pa_cons (pe_bltn (v := .ty Ts) hgT hmT hv rfl hn hd) pa_nil hs2) hs) (by decide) (by decide) hs hpl) fun σ H Q ⟨ρ, Z, B, r0, h⟩ => ?_⟩
  refine ⟨ρ, Z, B, r0, O.sat_then (o := p.ev ρ) h (fun a ha v H1 R1 V1 => ?_) fun _ _ _ h => h⟩
  cases e1 : p.get a.1 a.2 with
  | none => rw [e1] at ha; exact ha.elim
  | some d =>
    rw [e1] at ha
    dsimp only at ha
    cases e2 : d.ty with
    | none => rw [show dIsi Ts d = none by unfold dIsi; rw [e2]; rfl] at ha; exact ha.elim
    | some t =>
      rw [show dIsi Ts d = some (false, .bl (isTy Ts t)) by unfold dIsi; rw [e2]; rfl] at ha
      refine ⟨v, .ty Ts, .type t, .type Ts, isTy Ts t, rfl, ?_, by rw [hK]; exact tyX_of (V1.fin R1 e1) e2, kit_is hT e2, ha _ H1 R1 (.bl _)⟩
      first | exact rfl | constructor | exact .ty _
end
end U
namespace U
set_option autoImplicit false
open PySem PySem.Spec PyProof.Rows L2

/-! ### iterators -/
def seqOf : D → Option (List D)
  | .tup ds => some ds
  | .lst ds => some ds
  | .scr ns => some (ns.map .int)
  | _ => none
def fItS (f : EF) : IF := fun ρ => (f ρ).bind fun r => match seqOf r.2.1 with
  | some ds => .ok (ds, r.2.2)
  | none => .bad
section
variable {c : Cc} {σ : St} {H : Hp} {ρ : En} {Z : Addr → Prop} {J : It} {G : Hp → Prop} {xs : List V} {ds : List D}
theorem iok_at (wk : Walk J xs.length G (YAt xs)) (hG : ∀ H2, (∀ b o, hull σ ρ H b = some o → H2 b = some o) → G H2) (rl : RepL c (Av σ ρ Z) H xs ds) : IOk c σ H ρ Z J ds := by
  have hl := rl.len
  refine ⟨G, YAt xs, by rw [← hl]; exact wk, hG, fun i H2 x H3 hi _ y => ?_⟩
  obtain ⟨e1, e2⟩ := y
  subst e1
  refine ⟨Same.refl _, ?_⟩
  obtain ⟨d, h1, h2⟩ := rl.getV e2
  exact ⟨d, h1, fun A2 k => k x d h2⟩
theorem repL_ints {A : Addr → Prop} : ∀ ns : List Int, RepL c A H (ns.map V.int) (ns.map D.int)
  | [] => .nil
  | n :: ns => .cons (.int n) (repL_ints ns)
end
section
variable {X : Cx} {c : Cc} {E : XK} {tg e : Expr} {f : EF}
theorem hull_keep {c : Cc} {σ : St} {H H2 : Hp} {ρ : En} {Z : Addr → Prop} {B : Hp} {a : Addr} {o : HO} (r : R c σ H ρ Z B) (s : ∀ b o, hull σ ρ H b = some o → H2 b = some o) (h : H a = some o) (n : ¬ Cl o) : H2 a = some o :=
  s _ _ (by rw [hull_not fun z => by obtain ⟨ys, z, cl⟩ := r.ownL z; rw [h] at z; cases z; exact n cl]; exact h)
theorem hull_sqT {K : PySem.W.Frag} {c : Cc} {σ : St} {H H2 : Hp} {ρ : En} {Z : Addr → Prop} {B : Hp} {a : Addr} {xs : List V} (r : R c σ H ρ Z B) (s : ∀ b o, hull σ ρ H b = some o → H2 b = some o) (h : SqT K H a xs) : SqT K H2 a xs := by
  rcases h with (h1 | ⟨o, h1⟩) | h1
  · exact .inl (.inl (hull_keep r s h1 fun z => z))
  · exact .inl (.inr ⟨o, hull_keep r s h1 fun z => z⟩)
  · exact .inr h1
def D.isTup : D → Bool
  | .tup _ => true
  | _ => false
/-- a datum that is a list or a script is a list on the heap -/
theorem rep_seqL {c : Cc} {A : Addr → Prop} {H : Hp} {v : V} {d : D} {ds : List D} (h : Rep c A H v d) (e : seqOf d = some ds) (n : d.isTup = false) : ∃ a xs, v = .ref a ∧ RepL c A H xs ds ∧ (H a = some (.lst xs) ∧ ¬ A a ∨ SqF c.K H a xs) := by
  cases d with
  | tup ds => cases n
  | lst ds' =>
    cases e
    cases h with
    | lst h1 h2 h3 => exact ⟨_, _, rfl, h3, .inl ⟨h1, h2⟩⟩
  | scr ns =>
    cases e
    cases h with
    | scr h1 => exact ⟨_, _, rfl, repL_ints ns, .inr h1⟩
  | non => cases e
  | bl b => cases e
  | int i => cases e
  | str x => cases e
  | dic ks vs => cases e
  | fn x => cases e
  | exc k x => cases e
theorem rep_seqT {c : Cc} {A : Addr → Prop} {H : Hp} {v : V} {d : D} {ds : List D} (h : Rep c A H v d) (e : seqOf d = some ds) (n : d.isTup = true) : ∃ a xs, v = .ref a ∧ RepL c A H xs ds ∧ SqT c.K H a xs := by
  cases d with
  | tup ds' =>
    cases e
    cases h with
    | tup h1 h2 => exact ⟨_, _, rfl, h2, h1⟩
  | lst _ => cases n
  | scr _ => cases n
  | non => cases n
  | bl b => cases n
  | int i => cases n
  | str x => cases n
  | dic ks vs => cases n
  | fn x => cases n
  | exc k x => cases n
theorem sqL_of {K : PySem.W.Frag} {H : Hp} {A : Addr → Prop} {a : Addr} {xs : List V} (h : H a = some (.lst xs) ∧ ¬ A a ∨ SqF K H a xs) : SqL K H a xs := by
  rcases h with ⟨h, _⟩ | h
  · exact .inl (.inl h)
  · exact h.sqL
theorem hull_sqL {K : PySem.W.Frag} {c : Cc} {σ : St} {H H2 : Hp} {ρ : En} {Z : Addr → Prop} {B : Hp} {a : Addr} {xs : List V} (r : R c σ H ρ Z B) (s : ∀ b o, hull σ ρ H b = some o → H2 b = some o)
    (h : H a = some (.lst xs) ∧ ¬ Av σ ρ Z a ∨ SqF K H a xs) : SqL K H2 a xs := by
  rcases h with ⟨h1, h2⟩ | h1
  · exact .inl (.inl (s _ _ (by rw [hull_not fun z => h2 (.inr z)]; exact h1)))
  · exact (h1.keep fun a o u h => hull_keep r s h fun z => z).sqL
theorem di_valS (hK : X.K = c.K) (h : DE X c E e f) : DI X c E tg e (fItS f) := by
  refine ⟨pi_imp (pi_or (pi_list h.pe) (pi_tup h.pe)) fun σ H Rr ⟨ρ, Z, B, r0, q⟩ => ?_⟩
  by_cases ht : (match f ρ with | .ok r => r.2.1.isTup | _ => false) = true
  · refine .inr ⟨ρ, Z, B, r0, ?_⟩
    unfold fItS at q
    cases hf : f ρ with
    | ok a =>
      rw [hf] at q ht
      obtain ⟨fr, d, ρ1⟩ := a
      intro v H1 r1 v1
      dsimp only [O.bind] at q ht
      cases hs : seqOf d with
      | none => rw [hs] at q; exact q.elim
      | some ds =>
        rw [hs] at q
        obtain ⟨a, xs, e1, e2, e3⟩ := rep_seqT v1.rep hs ht
        rw [← hK] at e3
        exact ⟨a, e1, ⟨xs, e3⟩, q _ H1 r1 (iok_at walk_tup (fun H2 s => hull_sqT r1 s e3) e2)⟩
    | ex k d ρ' => rw [hf] at q; exact q
    | bad => rw [hf] at q; exact q
  · refine .inl ⟨ρ, Z, B, r0, ?_⟩
    unfold fItS at q
    cases hf : f ρ with
    | ok a =>
      rw [hf] at q ht
      obtain ⟨fr, d, ρ1⟩ := a
      intro v H1 r1 v1
      dsimp only [O.bind] at q ht
      cases hs : seqOf d with
      | none => rw [hs] at q; exact q.elim
      | some ds =>
        rw [hs] at q
        obtain ⟨a, xs, e1, e2, e3⟩ := rep_seqL v1.rep hs (by simpa using ht)
        rw [← hK] at e3
        exact ⟨a, e1, ⟨xs, sqL_of e3⟩, q _ H1 r1 (iok_at walk_list (fun H2 s => hull_sqL r1 s e3) e2)⟩
    | ex k d ρ' => rw [hf] at q; exact q
    | bad => rw [hf] at q; exact q
end

/-! ### ranges -/
def rgD (lo c : Int) (n : Nat) : List D := (List.range n).map fun i => .int (lo + (i : Nat) * c)
def small62 (i : Int) : Bool := decide (i.natAbs < 4611686018427387904)
def rg1 : List D → Option (List D)
  | [.int j] => if small62 j then some (rgD 0 1 j.toNat) else none
  | _ => none
def rg2 : List D → Option (List D)
  | [.int i, .int j] => if small62 i && small62 j then some (rgD i 1 (j - i).toNat) else none
  | _ => none
def rg3 : List D → Option (List D)
  | [.int i, .int j, .int c] => if c ≠ 0 ∧ c.natAbs < 1073741824 ∧ Builtin.Range.small i j c = true ∧ 0 ≤ Builtin.Range.rangeSize i j c then some (rgD i c (Builtin.Range.rangeSize i j c).toNat) else none
  | _ => none
def fRg (g : List D → Option (List D)) (ps : List Pk) : IF := fun ρ => (Pk.evs ps ρ).bind fun a => match Pk.gets ps a.1 a.2 with
  | some ds => match g ds with
    | some r => .ok (r, a.2)
    | none => .bad
  | none => .bad
theorem iok_fn {c : Cc} {σ : St} {H : Hp} {ρ : En} {Z : Addr → Prop} {J : It} {n : Nat} {lo k : Int} (wk : Walk J n (fun _ => True) (YFn fun i => .int (lo + (i : Nat) * k))) : IOk c σ H ρ Z J (rgD lo k n) := by
  refine ⟨fun _ => True, YFn fun i => .int (lo + (i : Nat) * k), by unfold rgD; rw [List.length_map, List.length_range]; exact wk, fun _ _ => trivial, fun i H2 x H3 hi _ y => ?_⟩
  obtain ⟨e1, e2⟩ := y
  subst e1; subst e2
  refine ⟨Same.refl _, .int (lo + (i : Nat) * k), ?_, fun A2 _ => .int _⟩
  unfold rgD at hi ⊢
  rw [List.length_map, List.length_range] at hi
  rw [List.getElem?_map, List.getElem?_range hi]
  rfl
section
variable {X : Cx} {c : Cc} {E : XK} {tg e a b s : Expr} {ps : List Pk} {p pos : Pos}
theorem small62_of {i : Int} (h : small62 i = true) : -(2 ^ 62) ≤ i ∧ i < 2 ^ 62 := by
  unfold small62 at h
  have := of_decide_eq_true h
  exact ⟨by omega, by omega⟩
theorem walk_rg {lo : Int} {n : Nat} : Walk (Itr lo n) n (fun _ => True) (YFn fun i => .int (lo + (i : Nat) * 1)) :=
  (walk_range (lo := lo) (n := n)).mono (fun _ h => h) fun i H x H' _ _ y => ⟨y.1, y.2.trans (by show V.int (lo + (i : Nat)) = V.int (lo + (i : Nat) * 1); rw [Int.mul_one])⟩
theorem di_rg1 (ha : DPs X c E [a] ps) (hg : Gl X "range" := by rfl) (hm : X.mg "range" = none := by rfl) (hs : starEach [a] X.env = [(false, eval a X.env)] := by rfl) : DI X c E tg (.Call (.Name "range" p) [a] [] pos) (fRg rg1 ps) := by
  refine ⟨pi_imp (pi_range1 hg hm ha.pa hs) fun σ H Rr ⟨ρ, Z, B, r0, h⟩ => ?_⟩
  refine ⟨ρ, Z, B, r0, O.sat_then (o := Pk.evs ps ρ) h (fun a ha v1 H1 r1 pv1 => ?_) fun _ _ _ h => h⟩
  cases e1 : Pk.gets ps a.1 a.2 with
  | none => rw [e1] at ha; exact ha.elim
  | some x =>
    rw [e1] at ha
    dsimp only at ha
    have rt := pv1.fin r1 e1
    unfold rg1 at ha
    split at ha
    case h_2 => exact ha.elim
    rename_i w hw
    split at hw
    case h_2 => cases hw
    rename_i j
    split at hw
    case isFalse => cases hw
    rename_i hj
    cases hw
    obtain ⟨v, rfl, hv⟩ := repTs1 rt
    cases repT_int hv
    exact ⟨j, rfl, (small62_of hj).1, (small62_of hj).2, ha _ H1 r1 (iok_fn walk_rg)⟩
theorem di_rg2 (ha : DPs X c E [a, b] ps) (hg : Gl X "range" := by rfl) (hm : X.mg "range" = none := by rfl) (hs : starEach [a, b] X.env = [(false, eval a X.env), (false, eval b X.env)] := by rfl) (hs2 : starEach [b] X.env = [(false, eval b X.env)] := by rfl) : DI X c E tg (.Call (.Name "range" p) [a, b] [] pos) (fRg rg2 ps) := by
  refine ⟨pi_imp (pi_range2 hg hm ha.pa hs hs2) fun σ H Rr ⟨ρ, Z, B, r0, h⟩ => ?_⟩
  refine ⟨ρ, Z, B, r0, O.sat_then (o := Pk.evs ps ρ) h (fun a ha v1 H1 r1 pv1 => ?_) fun _ _ _ h => h⟩
  cases e1 : Pk.gets ps a.1 a.2 with
  | none => rw [e1] at ha; exact ha.elim
  | some x =>
    rw [e1] at ha
    dsimp only at ha
    have rt := pv1.fin r1 e1
    unfold rg2 at ha
    split at ha
    case h_2 => exact ha.elim
    rename_i w hw
    split at hw
    case h_2 => cases hw
    rename_i i j
    split at hw
    case isFalse => cases hw
    rename_i hj
    cases hw
    obtain ⟨v, v', rfl, hv, hv'⟩ := repTs2 rt
    cases repT_int hv
    cases repT_int hv'
    have hj := Bool.and_eq_true_iff.mp hj
    exact ⟨i, j, rfl, ⟨(small62_of hj.1).1, (small62_of hj.1).2, (small62_of hj.2).1, (small62_of hj.2).2⟩, ha _ H1 r1 (iok_fn walk_rg)⟩
theorem repTs3 {c : Cc} {A : Addr → Prop} {H : Hp} {vs : List V} {d e f : D} (h : RepTs c A H vs [d, e, f]) : ∃ v w x, vs = [v, w, x] ∧ RepT c A H v d ∧ RepT c A H w e ∧ RepT c A H x f := by
  cases h with
  | cons h1 h2 =>
    obtain ⟨w, x, rfl, h3, h4⟩ := repTs2 h2
    exact ⟨_, w, x, rfl, h1, h3, h4⟩
theorem di_rg3 (ha : DPs X c E [a, b, s] ps) (hg : Gl X "range" := by rfl) (hm : X.mg "range" = none := by rfl) (hs : starEach [a, b, s] X.env = (false, eval a X.env) :: starEach [b, s] X.env := by rfl) (hpl : (backTo pos (starEach [b, s] X.env)).any (·.1) = false := by rfl) : DI X c E tg (.Call (.Name "range" p) [a, b, s] [] pos) (fRg rg3 ps) := by
  refine ⟨pi_imp (pi_range3 hg hm ha.pa hs hpl) fun σ H Rr ⟨ρ, Z, B, r0, h⟩ => ?_⟩
  refine ⟨ρ, Z, B, r0, O.sat_then (o := Pk.evs ps ρ) h (fun a ha v1 H1 r1 pv1 => ?_) fun _ _ _ h => h⟩
  cases e1 : Pk.gets ps a.1 a.2 with
  | none => rw [e1] at ha; exact ha.elim
  | some x =>
    rw [e1] at ha
    dsimp only at ha
    have rt := pv1.fin r1 e1
    unfold rg3 at ha
    split at ha
    case h_2 => exact ha.elim
    rename_i w hw
    split at hw
    case h_2 => cases hw
    rename_i i j k
    split at hw
    case isFalse => cases hw
    rename_i hj
    cases hw
    obtain ⟨v, v', v'', rfl, hv, hv', hv''⟩ := repTs3 rt
    cases repT_int hv
    cases repT_int hv'
    cases repT_int hv''
    exact ⟨i, j, k, (Builtin.Range.rangeSize i j k).toNat, rfl, ⟨hj.1, hj.2.1, hj.2.2.1, (Int.toNat_of_nonneg hj.2.2.2).symm⟩, ha _ H1 r1 (iok_fn walk_rangeC)⟩
end

/-! ### pairs: enumerate, zip -/
theorem iok_pair {c : Cc} {σ : St} {H : Hp} {ρ : En} {Z : Addr → Prop} {J : It} {G : Hp → Prop} {n : Nat} {f g : Nat → Option V} {f' g' : Nat → Option D} (wk : Walk J n G (YPair f g)) (hG : ∀ H2, (∀ b o, hull σ ρ H b = some o → H2 b = some o) → G H2)
    (hf : ∀ i v, f i = some v → ∃ d, f' i = some d ∧ Rep c (Av σ ρ Z) H v d) (hg : ∀ i v, g i = some v → ∃ d, g' i = some d ∧ Rep c (Av σ ρ Z) H v d) (ds : List D) (hn : ds.length = n)
    (hd : ∀ i x y, i < n → f' i = some x → g' i = some y → ds[i]? = some (.tup [x, y])) : IOk c σ H ρ Z J ds := by
  refine ⟨G, YPair f g, by rw [hn]; exact wk, hG, fun i H2 x H3 hi _ y => ?_⟩
  obtain ⟨T, a, b, rfl, hT, rfl, e1, e2⟩ := y
  obtain ⟨d1, k1, k2⟩ := hf i a e1
  obtain ⟨d2, l1, l2⟩ := hg i b e2
  refine ⟨same_new hT, .tup [d1, d2], hd i d1 d2 (by omega) k1 l1, fun A2 k => ?_⟩
  exact .tup (.inl (.inl upd_same)) (.cons (Rep.same (same_new hT) (k _ _ k2)) (.cons (Rep.same (same_new hT) (k _ _ l2)) .nil))

theorem meets_enumerate_newT (l : Addr) (items : Array Value) (n : Nat) (dct : Option Addr) (sl : Array (Option Value)) :
    Meets (Builtin.«enumerate.__new__» ⟨[.type "enumerate", .ref l], []⟩) (fun _ R s => s.heap.get? l = some { cls := .type "tuple", dict := dct, data := .seq items n, slots := sl } ∧
      R (.ok (.ret (.ref (s.heap.push { cls := .type "tuple_iterator", data := .fields #[.ref l, .int 0 0] }).objs.size)))
        { s with heap := (s.heap.push { cls := .type "tuple_iterator", data := .fields #[.ref l, .int 0 0] }).push { cls := .type "enumerate", data := .fields #[.none, .bool false, .ref s.heap.objs.size, rawInt 0, .none, .none] } }) :=
  .of_wp fun prog w A R s h => by
    obtain ⟨hp, g, d, tk, os⟩ := s; obtain ⟨hl, h⟩ := h
    have hsub := sub_enumerate
    have hL : Heap.IsTuple (Shared.heap ⟨hp, g, d, tk, os⟩) l items := ⟨_, hl, rfl, _, rfl⟩
    wp_walk using AutoSeq1.wpAny_loadPart' hl
    refine wpAny_stack_any fun st => wpAny_pure ?_
    split
    · rename_i c _ _ _ _ _
      cases (c == Value.type "enumerate")
      · wp_walk using AutoSeq1.wpAny_loadPart' hl, wpAny_pyIter_tuple hL
        exact ⟨_, rfl, h⟩
      · wp_walk using AutoSeq1.wpAny_loadPart' hl, wpAny_pyIter_tuple hL
        exact ⟨_, rfl, h⟩
    · wp_walk using AutoSeq1.wpAny_loadPart' hl, wpAny_pyIter_tuple hL
      exact ⟨_, rfl, h⟩
theorem call_enumerate_tuple {prog : Program} {w : World} {A : Around} {E : Value → Shared → Prop} {s : Shared} {l : Addr} {items : Array Value} {Q : Value → Shared → Prop} (hL : s.heap.IsTuple l items)
    (h : ∀ h', IsEnum h' (s.heap.objs.size + 1) s.heap.objs.size 0 .none → h'.IsTupleIter s.heap.objs.size l 0 → h'.objs.size = s.heap.objs.size + 2 →
      (∀ b o, s.heap.get? b = some o → h'.get? b = some o) → Q (.ref (s.heap.objs.size + 1)) { s with heap := h' }) :
    wpAny (model prog w) A (call (.type "enumerate") [.ref l]) Q E s := by
  obtain ⟨⟨c, dct, dt, sl⟩, hl, hc, n, hd⟩ := hL
  replace hc : c = .type "tuple" := hc
  replace hd : dt = .seq items n := hd
  subst hc hd
  refine callType_new F.called_enumerate (by decide) (F.typeCall_enumerate_1 _) (F.newCall_enumerate_1 _) (fun obj => F.args_object_init_2 obj _) F.entry_enumerate_new
    (meets_enumerate_newT l items n dct sl) ⟨hl, ?_⟩
  have hz : (s.heap.push { cls := .type "tuple_iterator", data := .fields #[.ref l, .int 0 0] }).objs.size = s.heap.objs.size + 1 := Heap.size_push ..
  show _ ∧ _
  rw [hz]
  have he : IsEnum ((s.heap.push { cls := .type "tuple_iterator", data := .fields #[.ref l, .int 0 0] }).push
      { cls := .type "enumerate", data := .fields #[.none, .bool false, .ref s.heap.objs.size, rawInt 0, .none, .none] }) (s.heap.objs.size + 1) s.heap.objs.size 0 .none := by
    have := Heap.get?_push_size (s.heap.push { cls := .type "tuple_iterator", data := .fields #[.ref l, .int 0 0] })
      (o := { cls := .type "enumerate", data := .fields #[.none, .bool false, .ref s.heap.objs.size, rawInt 0, .none, .none] }) rfl
    rw [hz] at this; exact this
  refine ⟨⟨_, he, rfl⟩, h _ he ⟨_, Heap.get?_push_of_some _ (Heap.get?_push_size _ rfl), rfl, rfl⟩ (by rw [Heap.size_push, hz]) fun b o x => Heap.get?_push_of_some _ (Heap.get?_push_of_some _ x)⟩
def IteT (K : PySem.W.Frag) (a : Addr) : It :=
  ⟨fun i H => ∃ (xs : List V) (x : V), SqT K H a xs ∧ xs[i]? = some x, fun i H v H' => ∃ T x, v = .ref T ∧ H T = none ∧ H' = upd H T (.tup [.int (i : Nat), x]) ∧ ∀ xs, SqT K H a xs → xs[i]? = some x, fun i H => ∃ xs : List V, SqT K H a xs ∧ xs.length ≤ i⟩
theorem turn_enumT {P : Program} {w : World} {K : PySem.W.Frag} {elts : List Expr} {kk : Nat} {tpos : Pos} (a e it : Addr) :
    Turn P w K (.Tuple elts kk tpos) (IteT K a) [e, it] e (fun i h => (∃ old, IsEnum h e it ((i : Nat) : Int) old) ∧ h.IsTupleIter it a i ∧ e ≠ it) where
  mem := by simp
  obj := fun i h st b hb => by
    obtain ⟨⟨old, he⟩, ⟨o, ho, hc, hd⟩, _⟩ := st
    have e' : b = e ∨ b = it := by simpa using hb
    rcases e' with z | z
    · rw [z]; exact ⟨_, he, fun v q => nomatch q⟩
    · rw [z]; exact ⟨o, ho, fun v q => by rw [hd] at q; cases q⟩
  keep := fun i h h' st k => let ⟨⟨old, he⟩, hi, hne⟩ := st; ⟨⟨old, k e (by simp) _ he⟩, hi.at fun o q => k it (by simp) o q, hne⟩
  item := by
    intro X hP hw hK hc i pins s σ H E I hf st hg
    subst hP hw hK
    obtain ⟨⟨old, he⟩, hit, hne⟩ := st
    obtain ⟨xs, x, hq, hx⟩ := hg
    obtain ⟨its, rv, p, hz⟩ := I.tuple hq
    obtain ⟨u, hu, ru⟩ := rv.get hx
    have hel : e < s.heap.objs.size := Heap.lt_size he
    have hil : it < s.heap.objs.size := by obtain ⟨_, q, _⟩ := hit; exact Heap.lt_size q
    have p' : s.heap.IsTuple a its.toArray := p
    have hat : a ≠ it := fun z => by
      obtain ⟨o, h1, h2, _⟩ := p'
      obtain ⟨o', h3, h4, _⟩ := hit
      rw [z, h3] at h1; cases h1
      rw [h4] at h2
      exact absurd h2 (by intro z; injection z with z; exact absurd z (by decide))
    have hea : e ∉ [it, a] := fun z => by
      have z' : e = it ∨ e = a := by simpa using z
      rcases z' with z' | z'
      · exact hne z'
      · obtain ⟨o, h1, h2, _⟩ := p'
        rw [← z'] at h1
        have h3 : s.heap.get? e = some _ := he
        rw [h3] at h1; cases h1
        exact absurd h2 (by intro z; injection z with z; exact absurd z (by decide))
    have hlt : i < its.toArray.size := by
      have := rv.length
      have hx' : i < xs.length := by
        by_cases k : i < xs.length
        · exact k
        · rw [List.getElem?_eq_none (by omega)] at hx; cases hx
      simpa using by omega
    refine wpAny_pyNext_enum_itemD (Draws.tuple (A := X.A.in1) (show X.A.in1.handled = none from I.ok.hd hc) it a hat its.toArray) he ⟨hit, p'⟩ hlt hne hea fun y h' tk hy ho hit' hT hsz hk => ?_
    have hyu : y = u := by
      have hu' : its.toArray[i]? = some u := by simpa using hu
      rw [hu'] at hy
      exact (Option.some.inj hy).symm
    subst hyu
    refine ⟨_, rfl, wpAny_letOwnedTupleGo_enum (s := { s with heap := h', toks := tk + 1 }) ho fun h'' he' sb => ?_⟩
    have hT2 : h''.get? s.heap.objs.size = some { cls := .type "tuple", data := .seq #[.int i tk, y] } := (sb.2 _ (Nat.ne_of_gt hel)).trans hT
    have new : ObjOk X.prog X.w (upd H s.heap.objs.size (.tup [.int (i : Nat), x])) h'' s.heap.objs.size (.tup [.int (i : Nat), x]) :=
      ⟨by show 2 ≤ sizeLine; decide, [.int i tk, y], .cons ⟨_, rfl⟩ (.cons ru .nil), ⟨_, hT2, rfl, _, rfl⟩⟩
    have I1 : Inv X pins σ (upd H s.heap.objs.size (.tup [.int (i : Nat), x])) { s with heap := h'', toks := tk + 1 } :=
      I.turnedNew (ch := [e, it]) (fun b ob hb q => (sb.2 b (fun z => hb (by simp [z]))).trans (hk b ob (fun z => hb (by simp [z])) (fun z => hb (by simp [z])) q)) hf (Nat.le_refl _) new
    refine ⟨.ref s.heap.objs.size, _, I1, rfl, ⟨_, x, rfl, I.hok.fresh (Nat.le_refl _), rfl, fun ys hy => by rw [I.tuple_inj hy hq]; exact hx⟩, ⟨⟨y, ?_⟩, hit'.1.at fun o q => (sb.2 it (Ne.symm hne)).trans q, hne⟩, fun b hb => ?_⟩
    · have e1 : ((i + 1 : Nat) : Int) = (i : Int) + 1 := by omega
      rw [e1]; exact he'
    · have hb' : b < s.heap.objs.size := by
        have e' : b = e ∨ b = it := by simpa using hb
        rcases e' with z | z
        · rw [z]; exact hel
        · rw [z]; exact hil
      rw [upd_ne (Nat.ne_of_lt hb')]
      exact (hf b hb).1
  done := by
    intro X hP hw hK hc i pins s σ H E I hf st hg
    subst hP hw hK
    obtain ⟨⟨old, he⟩, hit, hne⟩ := st
    obtain ⟨xs, hq, hx⟩ := hg
    obtain ⟨its, rv, p, hz⟩ := I.tuple hq
    obtain ⟨f0, f1, f2, f3, f4, f5⟩ := hf it (by simp)
    have hl := rv.length
    have p' : s.heap.IsTuple a its.toArray := p
    unfold pyNext
    have hT : s.TypeIs (.ref e) "enumerate" := ⟨_, he, rfl⟩
    refine wpAny_bind (wpAny_attempt (wpAny_callSpecial?_slot (name := Str.ofString "__next__") hT F.slot_enumerate_next
      (wpAny_call_entry F.slot_enumerate_next hT F.entry_enumerate_next ?_ (F.args_enumerate_next_1 _))))
    show wpAny _ _ (field (.ref e) 2 >>= _) _ _ _
    refine wpAny_bind (wpAny_field he rfl (x := .ref it) rfl ?_)
    refine wpAny_bind (wpAny_nextOf_tuple_end (I.ok.hd hc) hit p' (by simp; omega) fun h' x he' hx' => ?_)
    obtain ⟨o, ho, hc⟩ := hx'
    refine wpAny_bind (wpAny_isInstance (T := "StopIteration") (b := true) ⟨o, ho, hc⟩ isSubtype_stop ?_)
    exact wpAny_pure ⟨rfl, I.turned (t' := s.toks) (fun b o hb q => he' b o hb q) f0 f1 f3 f4 f5⟩
  self := fun A i s Q E st h => let ⟨⟨_, he⟩, _⟩ := st; wpAny_pyIter_enum he h
def iEnumT (K : PySem.W.Frag) (ta : TA) : TI := fun σ H R => ta σ H fun vs H1 => ∃ a xs, vs = [.ref a] ∧ SqT K H1 a xs ∧ R (IteT K a) H1
theorem pi_enumT {X : Cx} {e : Expr} {ta : TA} {p pos tpos : Pos} {elts : List Expr} {kk : Nat} (hg : Gl X "enumerate") (hm : X.mg "enumerate" = none) (ha : PA X [e] ta) (hs : starEach [e] X.env = [(false, eval e X.env)] := by rfl) :
    PI X (.Tuple elts kk tpos) (.Call (.Name "enumerate" p) [e] [] pos) (iEnumT X.K ta) := by
  refine ⟨fun pins s σ H R I h => ?_⟩
  refine Call_ (ld_blt I hg hm boot_enumerate (PyProof.Rows.callWith_type1 (thn (ha.run pos pins s σ H _ I h) fun us s1 ⟨vs, H1, I1, r1, q1⟩ => ?_) hs rfl))
  obtain ⟨a, xs, ex, hq, q⟩ := q1
  subst ex
  cases r1 with
  | cons r rr =>
    cases rr
    cases r
    obtain ⟨its, rv, p', hz⟩ := I1.tuple hq
    refine call_enumerate_tuple (show s1.heap.IsTuple a its.toArray from p') fun h' he hit hsz hk => wpAny_pyIter_enum he ?_
    have I2 : Inv X pins σ H1 { s1 with heap := h' } := I1.kept (t' := s1.toks) hk
    refine ⟨s1.heap.objs.size + 1, [s1.heap.objs.size + 1, s1.heap.objs.size], _, _, H1, rfl, I2, turn_enumT a (s1.heap.objs.size + 1) s1.heap.objs.size, ⟨⟨.none, he⟩, hit, Nat.succ_ne_self _⟩, fun b hb => ?_, q⟩
    have e' : b = s1.heap.objs.size + 1 ∨ b = s1.heap.objs.size := by simpa using hb
    have hle : s1.heap.objs.size ≤ b := by
      rcases e' with z | z
      · rw [z]; exact Nat.le_add_right _ _
      · rw [z]; exact Nat.le_refl _
    exact I1.fpOk hle (I1.hok.fresh hle)
theorem walk_enumT {K : PySem.W.Frag} {a : Addr} {xs : List V} : Walk (IteT K a) xs.length (fun H => SqT K H a xs) (YPair (fun i => some (.int (i : Nat))) (fun i => xs[i]?)) := by
  refine ⟨fun i _ hi q => ⟨xs, xs[i], q, by simp [hi]⟩, fun _ q => ⟨xs, q, Nat.le_refl _⟩, fun i H v H' _ q y => ?_⟩
  obtain ⟨T, x, h1, h2, h3, h4⟩ := y
  exact ⟨T, .int (i : Nat), x, h1, h2, h3, rfl, h4 xs q⟩
theorem walk_zipT {K : PySem.W.Frag} {a b : Addr} {xs ys : List V} {n : Nat} (hn : n = min xs.length ys.length) : Walk (RZ.ItzT K a b) n (fun H => SqT K H a xs ∧ SqT K H b ys) (YPair (fun i => xs[i]?) (fun i => ys[i]?)) := by
  subst hn
  refine ⟨fun i _ hi q => ?_, fun _ q => ⟨xs, ys, q.1, q.2, by omega⟩, fun i H v H' _ q y => ?_⟩
  · have h1 : i < xs.length := by omega
    have h2 : i < ys.length := by omega
    exact ⟨xs, ys, xs[i], ys[i], q.1, q.2, by simp [h1], by simp [h2]⟩
  · obtain ⟨T, x, z, h1, h2, h3, h4, h5⟩ := y
    exact ⟨T, x, z, h1, h2, h3, h4 xs q.1, h5 ys q.2⟩
def enD (i : Nat) : List D → List D
  | [] => []
  | d :: ds => .tup [.int (i : Nat), d] :: enD (i + 1) ds
def zpD : List D → List D → List D
  | d :: ds, e :: es => .tup [d, e] :: zpD ds es
  | _, _ => []
theorem enD_len : ∀ (ds : List D) (i : Nat), (enD i ds).length = ds.length
  | [], _ => rfl
  | d :: ds, i => by rw [enD, List.length_cons, enD_len ds, List.length_cons]
theorem enD_get : ∀ (ds : List D) (i j : Nat) (d : D), ds[j]? = some d → (enD i ds)[j]? = some (.tup [.int ((i + j : Nat) : Int), d])
  | [], _, _, _, h => by simp at h
  | d :: ds, i, 0, e, h => by simp at h; subst h; rfl
  | d :: ds, i, j + 1, e, h => by
    have := enD_get ds (i + 1) j e (by simpa using h)
    rw [enD, List.getElem?_cons_succ, this]
    have e : i + 1 + j = i + (j + 1) := by omega
    rw [e]
theorem zpD_len : ∀ (ds es : List D), (zpD ds es).length = min ds.length es.length
  | [], _ => by simp [zpD]
  | _ :: _, [] => by simp [zpD]
  | d :: ds, e :: es => by rw [zpD, List.length_cons, zpD_len ds es, List.length_cons, List.length_cons]; omega
theorem zpD_get : ∀ (ds es : List D) (j : Nat) (d e : D), ds[j]? = some d → es[j]? = some e → (zpD ds es)[j]? = some (.tup [d, e])
  | [], _, _, _, _, h, _ => by simp at h
  | _ :: _, [], _, _, _, _, h => by simp at h
  | d :: ds, e :: es, 0, d', e', h, h' => by simp at h h'; subst h; subst h'; rfl
  | d :: ds, e :: es, j + 1, d', e', h, h' => zpD_get ds es j d' e' (by simpa using h) (by simpa using h')
/-- enumerate, zip: the operands are read (and frozen) -/
def fEnum (f : EF) : IF := fun ρ => (evA [f] ρ).bind fun r => match r.1 with
  | [d] => match seqOf d with
    | some ds => .ok (enD 0 ds, r.2)
    | none => .bad
  | _ => .bad
def fZip (f g : EF) : IF := fun ρ => (evA [f, g] ρ).bind fun r => match r.1 with
  | [d, e] => match seqOf d, seqOf e with
    | some ds, some es => if d.isTup == e.isTup then .ok (zpD ds es, r.2) else .bad
    | _, _ => .bad
  | _ => .bad
section
variable {X : Cx} {c : Cc} {E : XK} {e a b : Expr} {f g : EF} {p pos tpos : Pos} {elts : List Expr} {kk : Nat}
theorem di_enum (hK : X.K = c.K) (h : DA X c E [e] [f]) (hg : Gl X "enumerate" := by rfl) (hm : X.mg "enumerate" = none := by rfl) (hs : starEach [e] X.env = [(false, eval e X.env)] := by rfl) : DI X c E (.Tuple elts kk tpos) (.Call (.Name "enumerate" p) [e] [] pos) (fEnum f) := by
  refine ⟨pi_imp (pi_or (pi_enum hg hm h.pa hs) (pi_enumT hg hm h.pa hs)) fun σ H Rr ⟨ρ, Z, B, r0, q⟩ => ?_⟩
  unfold fEnum at q
  by_cases ht : (match evA [f] ρ with | .ok r => (match r.1 with | [d] => d.isTup | _ => false) | _ => false) = true
  · refine .inr ⟨ρ, Z, B, r0, ?_⟩
    cases hf : evA [f] ρ with
    | ok a =>
      rw [hf] at q ht
      obtain ⟨ds0, ρ1⟩ := a
      intro v H1 r1 v1
      dsimp only [O.bind] at q ht
      split at q
      case h_2 => exact q.elim
      rename_i d
      cases hs : seqOf d with
      | none => rw [hs] at q; exact q.elim
      | some ds =>
        rw [hs] at q
        cases v1 with
        | cons v1 vn =>
          cases vn
          obtain ⟨a, xs, e1, e2, e3⟩ := rep_seqT v1 hs ht
          rw [← hK] at e3
          refine ⟨a, xs, by rw [e1], e3, q _ H1 r1 (iok_pair (f' := fun i => some (.int (i : Nat))) (g' := fun i => ds[i]?) walk_enumT (fun H2 s => hull_sqT r1 s e3) (fun i v e => ⟨_, rfl, ?_⟩) (fun i v e => e2.getV e) _ ?_ fun i x y hi h1 h2 => ?_)⟩
          · cases e; exact .int _
          · rw [enD_len, e2.len]
          · cases h1
            rw [enD_get ds 0 i y h2, Nat.zero_add]
    | ex k d ρ' => rw [hf] at q; exact q
    | bad => rw [hf] at q; exact q
  · refine .inl ⟨ρ, Z, B, r0, ?_⟩
    cases hf : evA [f] ρ with
    | ok a =>
      rw [hf] at q ht
      obtain ⟨ds0, ρ1⟩ := a
      intro v H1 r1 v1
      dsimp only [O.bind] at q ht
      split at q
      case h_2 => exact q.elim
      rename_i d
      cases hs : seqOf d with
      | none => rw [hs] at q; exact q.elim
      | some ds =>
        rw [hs] at q
        cases v1 with
        | cons v1 vn =>
          cases vn
          obtain ⟨a, xs, e1, e2, e3⟩ := rep_seqL v1 hs (by simpa using ht)
          rw [← hK] at e3
          refine ⟨a, xs, by rw [e1], sqL_of e3, q _ H1 r1 (iok_pair (f' := fun i => some (.int (i : Nat))) (g' := fun i => ds[i]?) walk_enum (fun H2 s => hull_sqL r1 s e3) (fun i v e => ⟨_, rfl, ?_⟩) (fun i v e => e2.getV e) _ ?_ fun i x y hi h1 h2 => ?_)⟩
          · cases e; exact .int _
          · rw [enD_len, e2.len]
          · cases h1
            rw [enD_get ds 0 i y h2, Nat.zero_add]
    | ex k d ρ' => rw [hf] at q; exact q
    | bad => rw [hf] at q; exact q
theorem di_zip (hK : X.K = c.K) (h : DA X c E [a, b] [f, g]) (hg : Gl X "zip" := by rfl) (hm : X.mg "zip" = none := by rfl) (hs : starEach [a, b] X.env = (false, eval a X.env) :: starEach [b] X.env := by rfl) (hpl : (backTo pos (starEach [b] X.env)).any (·.1) = false := by rfl) :
    DI X c E (.Tuple elts kk tpos) (.Call (.Name "zip" p) [a, b] [] pos) (fZip f g) := by
  refine ⟨pi_imp (RZ.pi_zipA hg hm h.pa hs hpl) fun σ H Rr ⟨ρ, Z, B, r0, q⟩ => ?_⟩
  unfold fZip at q
  refine ⟨ρ, Z, B, r0, O.sat_then (o := evA [f, g] ρ) q (fun a ha vs H1 r1 v1 => ?_) fun _ _ _ h => h⟩
  obtain ⟨dd, ρ1⟩ := a
  dsimp only at ha
  split at ha
  case h_2 => exact ha.elim
  rename_i d e
  split at ha
  case h_2 => exact ha.elim
  rename_i ds es hs1 hs2
  split at ha
  case isFalse => exact ha.elim
  rename_i heq
  have heq : d.isTup = e.isTup := by simpa using heq
  cases v1 with
  | cons v1 vn =>
    cases vn with
    | cons v2 vn =>
      cases vn
      by_cases ht : d.isTup = true
      · obtain ⟨a, xs, e1, e2, e3⟩ := rep_seqT v1 hs1 ht
        obtain ⟨b, ys, l1, l2, l3⟩ := rep_seqT v2 hs2 (heq ▸ ht)
        rw [← hK] at e3 l3
        refine ⟨a, b, xs, ys, by rw [e1, l1], .inr ⟨e3, l3, ha _ H1 r1 (iok_pair (f' := fun i => ds[i]?) (g' := fun i => es[i]?) (walk_zipT rfl) (fun H2 s => ⟨hull_sqT r1 s e3, hull_sqT r1 s l3⟩) (fun i v e => e2.getV e) (fun i v e => l2.getV e) _ ?_ fun i x y hi h1 h2 => zpD_get _ _ _ _ _ h1 h2)⟩⟩
        rw [zpD_len, e2.len, l2.len]
      · obtain ⟨a, xs, e1, e2, e3⟩ := rep_seqL v1 hs1 (by simpa using ht)
        obtain ⟨b, ys, l1, l2, l3⟩ := rep_seqL v2 hs2 (by rw [← heq]; simpa using ht)
        rw [← hK] at e3 l3
        refine ⟨a, b, xs, ys, by rw [e1, l1], .inl ⟨sqL_of e3, sqL_of l3, ha _ H1 r1 (iok_pair (f' := fun i => ds[i]?) (g' := fun i => es[i]?) (walk_zip rfl) (fun H2 s => ⟨hull_sqL r1 s e3, hull_sqL r1 s l3⟩) (fun i v e => e2.getV e) (fun i v e => l2.getV e) _ ?_ fun i x y hi h1 h2 => zpD_get _ _ _ _ _ h1 h2)⟩⟩
        rw [zpD_len, e2.len, l2.len]
end
end U
namespace U
set_option autoImplicit false
open PySem PySem.Spec PyProof.Rows L2

/-! ### methods that change a list that a slot owns -/
abbrev MG := List D → List D → Option (D × List D)
def GSM (c : Cc) (g : MG) (r : V → List V → Hp → VK → Prop) : Prop := ∀ (A : Addr → Prop) (H : Hp) (a : Addr) (xs : List V) (ds : List D) (vs : List V) (es : List D) (d : D) (ds' : List D) (Q : VK),
  H a = some (.lst xs) → RepL c A H xs ds → RepL c A H vs es → g ds es = some (d, ds') → (∀ v ys, Rep c A H v d → RepL c A H ys ds' → Q v (upd H a (.lst ys))) → r (.ref a) vs H Q
def fMut (g : MG) (i : Nat) (fs : List EF) : EF := fun ρ => match ρ[i]? with
  | some (some (true, .lst _)) => (evA fs ρ).bind fun a => match a.2[i]? with
    | some (some (true, .lst ds)) => match g ds a.1 with
      | some r => .ok (false, r.1, a.2.set i (some (true, .lst r.2)))
      | none => .bad
    | _ => .bad
  | _ => .bad
section
variable {c : Cc} {σ : St} {H H' : Hp} {ρ : En} {Z : Addr → Prop} {B : Hp} {a : Addr} {d : D} {i : Nat}
theorem but_upd {u u' : HO} (h : H a = some u) : But (· = a) H (upd H a u') := fun b o n e => by rw [upd_ne (fun z => n z)]; exact e
theorem av_set {d' : D} (h : ρ[i]? = some (some (true, d))) : ∀ b, Av σ (ρ.set i (some (true, d'))) Z b → Av σ ρ Z b := fun b z => z.imp id (own_same h).mp
/-- a slot's cell is rewritten -/
theorem R.rewriteC (r : R c σ H ρ Z B) (h : ρ[i]? = some (some (true, d))) (hs : σ[i]? = some (some (.ref a))) {u' : HO} {d' : D} {ys : List V} {ds' : List D} (hc : Cell c (upd H a u') a d' ys ds') (hr : RepL c (Av σ ρ Z) H ys ds') :
    R c σ (upd H a u') (ρ.set i (some (true, d'))) Z B ∧ ∀ v x, Rep c (Av σ ρ Z) H v x → Rep c (Av σ (ρ.set i (some (true, d'))) Z) (upd H a u') v x := by
  have oi : Own σ ρ a := ⟨i, d, h, hs⟩
  obtain ⟨u, hH, cl⟩ := r.ownL oi
  have kw : ∀ b, b = a → ∃ u, H b = some u ∧ Cl u := fun b z => ⟨u, by rw [z]; exact hH, cl⟩
  have ka : ∀ b, b = a → Av σ ρ Z b := fun b z => .inr (by rw [z]; exact oi)
  have kb := but_upd (u' := u') hH
  refine ⟨r.change h hs kb hc (RepL.but kb kw ka hr), fun v x e => (Rep.but kb kw ka e).avoid fun b z => .inl (av_set h b z)⟩
/-- a slot's list is rewritten -/
theorem R.rewrite (r : R c σ H ρ Z B) (h : ρ[i]? = some (some (true, d))) (hs : σ[i]? = some (some (.ref a))) {ys : List V} {ds' : List D} (hr : RepL c (Av σ ρ Z) H ys ds') :
    R c σ (upd H a (.lst ys)) (ρ.set i (some (true, .lst ds'))) Z B ∧ ∀ v x, Rep c (Av σ ρ Z) H v x → Rep c (Av σ (ρ.set i (some (true, .lst ds'))) Z) (upd H a (.lst ys)) v x := r.rewriteC h hs (.lst upd_same) hr
end
section
variable {X : Cx} {c : Cc} {E : XK} {e o : Expr} {es : List Expr} {fs : List EF} {g : MG} {r : V → List V → Hp → VK → Prop} {name : Str} {apos cpos : Pos} {id : String} {i : Nat}
theorem lift_mut (hr : GSM c g r) {K : PySem.W.Frag} {σ : St} {H : Hp} {Q : VK} (h : liftE c E (fMut g i fs) σ H Q) : tBM K "list" r (tVar i) (liftA c E fs) σ H Q := by
  obtain ⟨ρ, Z, B, r0, h⟩ := h
  unfold fMut at h
  split at h
  case h_2 => exact h.elim
  rename_i d0 hi
  obtain ⟨a, ds, xs, h2, hC, h4, h5, h6⟩ := r0.own i _ hi
  obtain ⟨_, h3⟩ := hC.toL
  refine ⟨.ref a, h2, .inl ⟨rfl, xs, .inl (.inl h3)⟩, ρ, Z, B, r0, O.sat_then (o := evA fs ρ) h (fun a1 ha vs H1 r1 pv1 => ?_) fun _ _ _ h => h⟩
  split at ha
  case h_2 => exact ha.elim
  rename_i ds1 hi1
  split at ha
  case h_2 => exact ha.elim
  rename_i w hg
  obtain ⟨d', ds'⟩ := w
  obtain ⟨a', _, xs', k2, kC, k4, k5, k6⟩ := r1.own i _ hi1
  obtain ⟨e1, k3⟩ := kC.toL
  rw [h2] at k2
  cases k2
  cases e1
  refine hr (Av σ a1.2 Z) H1 a xs' ds1 vs a1.1 d' ds' Q k3 k4 pv1 hg fun v ys hv hys => ?_
  obtain ⟨l1, l2⟩ := r1.rewrite hi1 h2 hys
  exact ha v _ l1 (l2 v d' hv)
theorem de_mut (hr : GSM c g r) (hm : MtR X id r) (slot : Slot "list" name id) (hty : typeOf (.builtin id) = pure (.type "method_descriptor")) (hv : PE X o (tVar i)) (ha : DA X c E (e :: es) fs)
    (hbase : attributeBase o name X.env (eval o X.env) = eval o X.env := by rfl)
    (hfew : ((backTo cpos (starEach (e :: es) X.env)).all (fun x => !x.1) && (backToKw cpos (keywordEach [] X.env)).all (fun x => x.1.isSome)
      && decide ((e :: es).length + ([] : List Keyword).length + (if ([] : List Keyword).isEmpty then 0 else 1) < 30)) = true := by rfl)
    (hline : (apos.endLine == cpos.line) = true := by rfl) (hs : starEach (e :: es) X.env = (false, eval e X.env) :: starEach es X.env := by rfl) (hplain : (backTo cpos (starEach es X.env)).any (·.1) = false := by rfl) :
    DE X c E (.Call (.Attribute o name apos) (e :: es) [] cpos) (fMut g i fs) :=
  ⟨pe_imp (pe_bm PySem.F.plainAttrs_list slot hty hm hv ha.pa hbase hfew hline hs hplain) fun _ _ _ h => lift_mut hr h⟩
theorem de_mut0 (hr : GSM c g r) (hm : MtR X id r) (slot : Slot "list" name id) (hty : typeOf (.builtin id) = pure (.type "method_descriptor")) (hv : PE X o (tVar i))
    (hbase : attributeBase o name X.env (eval o X.env) = eval o X.env := by rfl) (hline : (apos.endLine == cpos.line) = true := by rfl) : DE X c E (.Call (.Attribute o name apos) [] [] cpos) (fMut g i []) :=
  ⟨pe_imp (pe_bm0 PySem.F.plainAttrs_list slot hty hm hv hbase hline) fun σ H Q h => by
    obtain ⟨x, h1, h2, h3⟩ := lift_mut (K := X.K) hr h
    obtain ⟨ρ, Z, B, r0, h⟩ := h3
    exact ⟨x, h1, h2, h [] H r0 .nil⟩⟩
end
def mApp : MG := fun ds es => match es with
  | [y] => if ds.length < 16777216 then some (.non, ds ++ [y]) else none
  | _ => none
def mExt : MG := fun ds es => match es with
  | [.lst zs] => if ds.length + zs.length ≤ 16777216 then some (.non, ds ++ zs) else none
  | _ => none
def mPop : MG := fun ds es => match es with
  | [] => (ds[ds.length - 1]?).map fun y => (y, ds.dropLast)
  | _ => none
def mPopAt : MG := fun ds es => match es with
  | [.int i] => if small62 i then (seqIndex? i ds.length).bind fun k => (ds[k]?).map fun y => (y, ds.eraseIdx k) else none
  | _ => none
section
variable {c : Cc}
theorem RepL.dropLast {A : Addr → Prop} {H : Hp} {vs : List V} {ds : List D} (h : RepL c A H vs ds) : RepL c A H vs.dropLast ds.dropLast := by
  rw [List.dropLast_eq_take, List.dropLast_eq_take, h.len]
  exact h.take _
theorem gs_app : GSM c mApp rAppend := by
  intro A H a xs ds vs es d ds' Q h1 h2 h3 e k
  unfold mApp at e
  split at e
  case h_2 => cases e
  rename_i y
  split at e
  case isFalse => cases e
  rename_i hl
  cases e
  cases h3 with
  | cons r rn =>
    cases rn
    exact ⟨a, xs, _, rfl, rfl, h1, by rw [h2.len, sizeLine_eq]; exact hl, k .non _ .non (h2.app (.cons r .nil))⟩
theorem gs_ext : GSM c mExt rExtend := by
  intro A H a xs ds vs es d ds' Q h1 h2 h3 e k
  unfold mExt at e
  split at e
  case h_2 => cases e
  rename_i zs
  split at e
  case isFalse => cases e
  rename_i hl
  cases e
  cases h3 with
  | cons r rn =>
    cases rn
    cases r with
    | lst r1 r2 r3 =>
      exact ⟨a, _, xs, _, rfl, rfl, h1, r1, by rw [h2.len, r3.len, sizeLine_eq]; exact hl, k .non _ .non (h2.app r3)⟩
theorem gs_pop : GSM c mPop rPop := by
  intro A H a xs ds vs es d ds' Q h1 h2 h3 e k
  unfold mPop at e
  split at e
  case h_2 => cases e
  cases h3
  cases q : ds[ds.length - 1]? with
  | none => rw [q] at e; cases e
  | some y =>
    rw [q] at e
    cases e
    obtain ⟨v, l1, l2⟩ := h2.get q
    exact ⟨a, xs, v, rfl, rfl, h1, by rw [h2.len]; exact l1, k v _ l2 h2.dropLast⟩
theorem gs_popAt : GSM c mPopAt rPopAt := by
  intro A H a xs ds vs es d ds' Q h1 h2 h3 e k
  unfold mPopAt at e
  split at e
  case h_2 => cases e
  rename_i i
  split at e
  case isFalse => cases e
  rename_i hs
  cases h3 with
  | cons r rn =>
    cases rn
    cases r
    cases q1 : seqIndex? i ds.length with
    | none => rw [q1] at e; cases e
    | some j =>
      rw [q1] at e
      dsimp only [Option.bind] at e
      cases q : ds[j]? with
      | none => rw [q] at e; cases e
      | some y =>
        rw [q] at e
        cases e
        obtain ⟨v, l1, l2⟩ := h2.get q
        have := small62_of hs
        exact ⟨a, xs, i, j, v, rfl, rfl, h1, by omega, by omega, by rw [h2.len]; exact q1, l1, k v _ l2 (h2.eraseIdx j)⟩
end

/-! ### a store in a list that a slot owns -/
def sIx (i : Nat) (fi f : EF) : SF := fun ρ => (f ρ).bind fun r => match r.2.2[i]? with
  | some (some (true, .lst _)) => (fi r.2.2).bind fun s => match s.2.1, s.2.2[i]? with
    | .int k, some (some (true, .lst ds)) => match ixN ds.length k with
      | some j => .ok (.nx, s.2.2.set i (some (true, .lst (ds.set j r.2.1))))
      | none => .bad
    | _, _ => .bad
  | _ => .bad
section
variable {X : Cx} {c : Cc} {pr : Bool} {E : XK} {o e ei : Expr} {f fi : EF} {pos pos' : Pos} {i : Nat}
theorem ds_ix (he : DE X c E e f) (hv : PE X o (tVar i)) (hi : DE X c E ei fi) (hs : swapsWithSole [.Subscript o ei pos'] e pos.line X.env = pure false := by rfl) (hw : swappedStores [.Subscript o ei pos'] e X.env = pure none := by rfl)
    (h1 : (assignEach [.Subscript o ei pos'] X.env).map (·.2) = [assign (.Subscript o ei pos') X.env] := by rfl)
    (ha : ∀ v, assign (.Subscript o ei pos') X.env v = (do
      let ov ← holding [v] (eval o X.env)
      let iv ← holding [v, ov] (eval ei X.env)
      standAt pos'
      holding [v, ov, iv] (setItem ov iv v)
      release [v, ov, iv] []) := by intro _; rfl) : DS X c pr E (.Assign [.Subscript o ei pos'] e pos) (sIx i fi f) := by
  refine ⟨ps_imp (ps_asg he.pe (pg_sub hv hi.pe set_list ha) hs hw h1) fun T σ H ⟨ρ, Z, B, r0, q⟩ => ⟨ρ, Z, B, r0, O.sat_then (o := f ρ) q (fun r hr v H1 r1 v1 => ?_) fun _ _ _ h => h.xw⟩⟩
  split at hr
  case h_2 => exact hr.elim
  rename_i d0 hi0
  obtain ⟨a, ds, xs, h2, hC, h4, h5, h6⟩ := r1.own i _ hi0
  obtain ⟨_, h3⟩ := hC.toL
  refine ⟨.ref a, h2, r.2.2, Z, hull σ r.2.2 H1, r1.strong, O.sat_then (o := fi r.2.2) hr (fun s hs w H2 r2 v2 => ?_) fun _ _ _ h => (h.weak r1.hull_le).xw⟩
  have rv := r1.keepV r2 v1.rep
  split at hs
  case h_2 => exact hs.elim
  rename_i k ds1 ek hi1
  split at hs
  case h_2 => exact hs.elim
  rename_i j hj
  obtain ⟨a', _, xs', k2, kC, k4, k5, k6⟩ := r2.own i _ hi1
  obtain ⟨e1, k3⟩ := kC.toL
  rw [h2] at k2
  cases k2
  cases e1
  have v2r := v2.rep
  rw [ek] at v2r
  cases v2r
  refine ⟨a, xs', k, j, rfl, rfl, k3, by rw [k4.len]; exact hj, ?_⟩
  exact hs _ _ (fun _ => rfl) ((r2.weak r1.hull_le).rewrite hi1 h2 (k4.set rv j)).1
end
end U
namespace U
set_option autoImplicit false
open PySem PySem.Spec PyProof.Rows L2

/-! ### ready rules -/
theorem uPass {X : Cx} {E : XK} : Passes CX0 X E := fun _ _ _ _ _ _ _ h => h.elim
def dLt : D → D → Option Bool := dB2 fun i j => decide (i < j)
def dLe : D → D → Option Bool := dB2 fun i j => decide (i ≤ j)
def dGt : D → D → Option Bool := dB2 fun i j => decide (j < i)
def dGe : D → D → Option Bool := dB2 fun i j => decide (j ≤ i)
section
variable {X : Cx} {c : Cc} {E : XK} {a b : Expr} {p q : Pk} {pos : Pos} {k : Nat}
theorem hu65 (hr : Room k X.A) : X.A.units + 65 < cLine := by have := hr.un; omega
theorem hu64 (hr : Room k X.A) : X.A.units + 64 < cLine := by have := hr.un; omega
theorem e_add (hK : X.K = c.K) (ha : DP X c E a p) (hb : DP X c E b q) : DE X c E (.BinOp a .Add b pos) (op2 dAdd p q) := de_op2 (gs_add hK) ha hb fun h h' => pe_op or_add h h'
theorem e_mul (hK : X.K = c.K) (ha : DP X c E a p) (hb : DP X c E b q) : DE X c E (.BinOp a .Mult b pos) (op2 dMul p q) := de_op2 (gs_mul hK) ha hb fun h h' => pe_op or_mul h h'
theorem e_sub (ha : DP X c E a p) (hb : DP X c E b q) : DE X c E (.BinOp a .Sub b pos) (op2 dSub p q) := de_op2 gs_sub ha hb fun h h' => pe_op op_sub h h'
theorem e_fdiv (ha : DP X c E a p) (hb : DP X c E b q) : DE X c E (.BinOp a .FloorDiv b pos) (op2 dFdiv p q) := de_op2 gs_fdiv ha hb fun h h' => pe_op op_fdivX h h'
theorem e_mod (ha : DP X c E a p) (hb : DP X c E b q) : DE X c E (.BinOp a .Mod b pos) (op2 dMod p q) := de_op2 gs_mod ha hb fun h h' => pe_op op_modN h h'
theorem e_pow (ha : DP X c E a p) (hb : DP X c E b q) : DE X c E (.BinOp a .Pow b pos) (op2 dPow p q) := de_op2 gs_pow ha hb fun h h' => pe_op op_pow h h'
theorem e_neg (ha : DP X c E a p) : DE X c E (.UnaryOp .USub a pos) (op1 dNeg p) := de_op1 gs_neg ha fun h => pe_un un_neg h
theorem e_ixS (hK : X.K = c.K) (ha : DP X c E a p) (hb : DP X c E b q) (hs : PlainIx b := by exact fun _ _ => rfl) : DE X c E (.Subscript a b pos) (op2 dIxS p q) := de_op2 (gs_ix hK) ha hb fun h h' => pe_ix ix_seq h h' hs
theorem t_lt (ha : DP X c E a p) (hb : DP X c E b q) : DT X c E (.Compare a [.Lt] [b] pos) (tOp2 dLt p q) := dt_op2 op_lt gs_rB0 ha hb (nomark _)
theorem t_le (ha : DP X c E a p) (hb : DP X c E b q) : DT X c E (.Compare a [.LtE] [b] pos) (tOp2 dLe p q) := dt_op2 op_le gs_rB0 ha hb (nomark _)
theorem t_gt (ha : DP X c E a p) (hb : DP X c E b q) : DT X c E (.Compare a [.Gt] [b] pos) (tOp2 dGt p q) := dt_op2 op_gt gs_rB0 ha hb (nomark _)
theorem t_ge (ha : DP X c E a p) (hb : DP X c E b q) : DT X c E (.Compare a [.GtE] [b] pos) (tOp2 dGe p q) := dt_op2 op_ge gs_rB0 ha hb (nomark _)
theorem t_eq (hr : Room k X.A) (hK : X.K = c.K) (ha : DP X c E a p) (hb : DP X c E b q) : DT X c E (.Compare a [.Eq] [b] pos) (tOp2 dEq p q) := dt_op2 (op_eqD (hu64 hr)) (gs_eq hK) ha hb (nomark _)
theorem t_ne (hr : Room k X.A) (hK : X.K = c.K) (ha : DP X c E a p) (hb : DP X c E b q) : DT X c E (.Compare a [.NotEq] [b] pos) (tOp2 dNe p q) := dt_op2 (op_neD (hu64 hr)) (gs_ne hK) ha hb (nomark _)
theorem t_inS (hr : Room k X.A) (hK : X.K = c.K) (ha : DP X c E a p) (hb : DP X c E b q) (hm : behindInMarks .In b = false := by rfl) : DT X c E (.Compare a [.In] [b] pos) (tOp2 dInS p q) := dt_op2 ((op_inD (hu65 hr)).or (op_inT (hu65 hr))) (gs_inS hK) ha hb hm
theorem t_notInS (hr : Room k X.A) (hK : X.K = c.K) (ha : DP X c E a p) (hb : DP X c E b q) (hm : behindInMarks .NotIn b = false := by rfl) : DT X c E (.Compare a [.NotIn] [b] pos) (tOp2 dNotInS p q) := dt_op2 ((op_notInD (hu65 hr)).or (op_notInT (hu65 hr))) (gs_notInS hK) ha hb hm
theorem t_isN (ha : DP X c E a p) (hb : DP X c E b q) : DT X c E (.Compare a [.Is] [b] pos) (tOp2 dIsN p q) := dt_op2 op_isN gs_isN ha hb (nomark _)
theorem t_notN (ha : DP X c E a p) (hb : DP X c E b q) : DT X c E (.Compare a [.IsNot] [b] pos) (tOp2 dIsNotN p q) := dt_op2 op_notN gs_isNotN ha hb (nomark _)
theorem t_isB (ha : DP X c E a p) (hb : DP X c E b q) : DT X c E (.Compare a [.Is] [b] pos) (tOp2 dIsB p q) := dt_op2 op_isV gs_isB ha hb (nomark _)
theorem c_lt (ha : DP X c E a p) (hb : DP X c E b q) : DE X c E (.Compare a [.Lt] [b] pos) (op2 (blO dLt) p q) := de_cmp op_lt gs_rB0 ha hb (nomark _)
theorem c_le (ha : DP X c E a p) (hb : DP X c E b q) : DE X c E (.Compare a [.LtE] [b] pos) (op2 (blO dLe) p q) := de_cmp op_le gs_rB0 ha hb (nomark _)
theorem c_gt (ha : DP X c E a p) (hb : DP X c E b q) : DE X c E (.Compare a [.Gt] [b] pos) (op2 (blO dGt) p q) := de_cmp op_gt gs_rB0 ha hb (nomark _)
theorem c_ge (ha : DP X c E a p) (hb : DP X c E b q) : DE X c E (.Compare a [.GtE] [b] pos) (op2 (blO dGe) p q) := de_cmp op_ge gs_rB0 ha hb (nomark _)
theorem c_eq (hr : Room k X.A) (hK : X.K = c.K) (ha : DP X c E a p) (hb : DP X c E b q) : DE X c E (.Compare a [.Eq] [b] pos) (op2 (blO dEq) p q) := de_cmp (op_eqD (hu64 hr)) (gs_eq hK) ha hb (nomark _)
theorem c_ne (hr : Room k X.A) (hK : X.K = c.K) (ha : DP X c E a p) (hb : DP X c E b q) : DE X c E (.Compare a [.NotEq] [b] pos) (op2 (blO dNe) p q) := de_cmp (op_neD (hu64 hr)) (gs_ne hK) ha hb (nomark _)
theorem c_inS (hr : Room k X.A) (hK : X.K = c.K) (ha : DP X c E a p) (hb : DP X c E b q) (hm : behindInMarks .In b = false := by rfl) : DE X c E (.Compare a [.In] [b] pos) (op2 (blO dInS) p q) := de_cmp ((op_inD (hu65 hr)).or (op_inT (hu65 hr))) (gs_inS hK) ha hb hm
theorem c_notInS (hr : Room k X.A) (hK : X.K = c.K) (ha : DP X c E a p) (hb : DP X c E b q) (hm : behindInMarks .NotIn b = false := by rfl) : DE X c E (.Compare a [.NotIn] [b] pos) (op2 (blO dNotInS) p q) := de_cmp ((op_notInD (hu65 hr)).or (op_notInT (hu65 hr))) (gs_notInS hK) ha hb hm
theorem c_isN (ha : DP X c E a p) (hb : DP X c E b q) : DE X c E (.Compare a [.Is] [b] pos) (op2 (blO dIsN) p q) := de_cmp op_isN gs_isN ha hb (nomark _)
theorem c_notN (ha : DP X c E a p) (hb : DP X c E b q) : DE X c E (.Compare a [.IsNot] [b] pos) (op2 (blO dIsNotN) p q) := de_cmp op_notN gs_isNotN ha hb (nomark _)
theorem c_isB (ha : DP X c E a p) (hb : DP X c E b q) : DE X c E (.Compare a [.Is] [b] pos) (op2 (blO dIsB) p q) := de_cmp op_isV gs_isB ha hb (nomark _)
end
section
variable {X : Cx} {c : Cc} {E : XK} {e : Expr} {es : List Expr} {ps : List Pk} {p pos : Pos}
theorem b_lenS (hK : X.K = c.K) (hm : X.mg "len" = none) (ha : DPs X c E [e] ps) (hg : Gl X "len" := by rfl) (hs : starEach [e] X.env = (false, eval e X.env) :: starEach [] X.env := by rfl) (hpl : (backTo pos (starEach [] X.env)).any (·.1) = false := by rfl) : DE X c E (.Call (.Name "len" p) [e] [] pos) (opN dLenS ps) :=
  de_opN (gs_len hK) ha fun h => pe_callB call_len hg hm PySem.boot_len h (by decide) (by decide) hs hpl
theorem b_abs (hm : X.mg "abs" = none) (ha : DPs X c E [e] ps) (hg : Gl X "abs" := by rfl) (hs : starEach [e] X.env = (false, eval e X.env) :: starEach [] X.env := by rfl) (hpl : (backTo pos (starEach [] X.env)).any (·.1) = false := by rfl) : DE X c E (.Call (.Name "abs" p) [e] [] pos) (opN dAbs ps) :=
  de_opN gs_abs ha fun h => pe_callB call_abs hg hm (by rfl) h (by decide) (by decide) hs hpl
theorem b_int (hm : X.mg "int" = none) (ha : DPs X c E [e] ps) (hg : Gl X "int" := by rfl) (hs : starEach [e] X.env = (false, eval e X.env) :: starEach [] X.env := by rfl) (hpl : (backTo pos (starEach [] X.env)).any (·.1) = false := by rfl) : DE X c E (.Call (.Name "int" p) [e] [] pos) (opN dInt ps) :=
  de_opN gs_int ha fun h => pe_callTy call_int1 hg hm (by rfl) h (by decide) (by decide) hs hpl
theorem b_listS (hK : X.K = c.K) (hm : X.mg "list" = none) (ha : DPs X c E [e] ps) (hg : Gl X "list" := by rfl) (hs : starEach [e] X.env = (false, eval e X.env) :: starEach [] X.env := by rfl) (hpl : (backTo pos (starEach [] X.env)).any (·.1) = false := by rfl) : DE X c E (.Call (.Name "list" p) [e] [] pos) (opN dListS ps) :=
  de_opN (gs_listS hK) ha fun h => pe_callTy call_list_of hg hm (by rfl) h (by decide) (by decide) hs hpl
theorem b_tuple (hK : X.K = c.K) (hm : X.mg "tuple" = none) (ha : DPs X c E [e] ps) (hg : Gl X "tuple" := by rfl) (hs : starEach [e] X.env = (false, eval e X.env) :: starEach [] X.env := by rfl) (hpl : (backTo pos (starEach [] X.env)).any (·.1) = false := by rfl) : DE X c E (.Call (.Name "tuple" p) [e] [] pos) (opN dTuple ps) :=
  de_opN (gs_tuple hK) ha fun h => pe_callTy call_tuple_of hg hm (by rfl) h (by decide) (by decide) hs hpl
theorem b_max2 {e2 : Expr} (hc : X.calm = true) (hm : X.mg "max" = none) (ha : DPs X c E [e, e2] ps) (hg : Gl X "max" := by rfl) (hs : starEach [e, e2] X.env = (false, eval e X.env) :: starEach [e2] X.env := by rfl) (hpl : (backTo pos (starEach [e2] X.env)).any (·.1) = false := by rfl) : DE X c E (.Call (.Name "max" p) [e, e2] [] pos) (opN dMax2 ps) :=
  de_opN gs_max2 ha fun h => pe_callB (call_max2 hc) hg hm (by rfl) h (by decide) (by decide) hs hpl
theorem b_min2 {e2 : Expr} (hc : X.calm = true) (hm : X.mg "min" = none) (ha : DPs X c E [e, e2] ps) (hg : Gl X "min" := by rfl) (hs : starEach [e, e2] X.env = (false, eval e X.env) :: starEach [e2] X.env := by rfl) (hpl : (backTo pos (starEach [e2] X.env)).any (·.1) = false := by rfl) : DE X c E (.Call (.Name "min" p) [e, e2] [] pos) (opN dMin2 ps) :=
  de_opN gs_min2 ha fun h => pe_callB (call_min2 hc) hg hm (by rfl) h (by decide) (by decide) hs hpl
end
/-! ### list(range(..)), tuple(range(..)) -/
/-! ### a call's parameters by name -/
def pmx {α : Type} (ix : List Nat) (l : List α) : List α := ix.filterMap fun i => l[i]?
def pmG {α : Type} (n m : Nat) (ix : List Nat) (us ws : List α) : List α := if us.length = n ∧ ws.length = m then pmx ix (us ++ ws) else []
def pmW {α : Type} (n : Nat) (ix : List Nat) (l : List α) : List α := if l.length = n then pmx ix l else []
theorem pmx_vals {vs : List V} {us : List Value} (h : Vals vs us) : ∀ ix : List Nat, Vals (pmx ix vs) (pmx ix us)
  | [] => .nil
  | i :: ix => by
    unfold pmx
    cases hv : vs[i]? with
    | none =>
      have : us[i]? = none := by
        have hl := h.length
        rw [List.getElem?_eq_none_iff] at hv ⊢
        omega
      rw [List.filterMap_cons_none hv, List.filterMap_cons_none this]
      exact pmx_vals h ix
    | some v =>
      obtain ⟨u, hu, r⟩ := h.get hv
      rw [List.filterMap_cons_some hv, List.filterMap_cons_some hu]
      exact .cons r (pmx_vals h ix)
theorem pmx_rep {c : Cc} {A : Addr → Prop} {H : Hp} {vs : List V} {ds : List D} (h : RepL c A H vs ds) : ∀ ix : List Nat, RepL c A H (pmx ix vs) (pmx ix ds)
  | [] => .nil
  | i :: ix => by
    unfold pmx
    cases hv : vs[i]? with
    | none =>
      have : ds[i]? = none := by
        have hl := h.len
        rw [List.getElem?_eq_none_iff] at hv ⊢
        omega
      rw [List.filterMap_cons_none hv, List.filterMap_cons_none this]
      exact pmx_rep h ix
    | some v =>
      obtain ⟨u, hu, r⟩ := h.getV hv
      rw [List.filterMap_cons_some hv, List.filterMap_cons_some hu]
      exact .cons r (pmx_rep h ix)
theorem pm_perm {c : Cc} {n : Nat} {ix : List Nat} : Perm2 c (pmW n ix) (pmW n ix) := fun A H vs ds h => by
  unfold pmW
  rw [h.len]
  split
  · exact pmx_rep h ix
  · exact .nil
theorem pm_perm0 {c : Cc} {n : Nat} {ix : List Nat} : Perm2 c (pmG 0 n ix []) (pmW n ix) := fun A H vs ds h => by
  unfold pmG pmW
  rw [h.len]
  by_cases e : ds.length = n
  · rw [if_pos ⟨rfl, e⟩, if_pos e]
    exact pmx_rep h ix
  · rw [if_neg fun z => e z.2, if_neg e]
    exact .nil
theorem pm_app {n m : Nat} {ix : List Nat} (vs zs : List V) (h : vs.length = n) : pmG n m ix vs zs = pmW (n + m) ix (vs ++ zs) := by
  unfold pmG pmW
  rw [List.length_append, h]
  by_cases e : zs.length = m
  · rw [if_pos ⟨rfl, e⟩, if_pos (by rw [e])]
  · rw [if_neg fun z => e z.2, if_neg fun z => e (by omega)]
section
variable {K : PySem.W.Frag}
theorem kb_mk {x qual : Str} {st : Stmt} {f : Addr} {fd : FuncData} {ps ks : List Str} (n m : Nat) (ix : List Nat) (F : Fun K x qual st f fd) (hne : ps ≠ [])
    (h : ∀ (kV doc pm : Value) (an : Option Addr) (cdv ct : Value) (us ws : List Value), us.length = n → ws.length = m → bindArgs (PySem.W.fnOf x qual (defArgs st) (defBody st) (defScope st) .none kV doc pm an cdv ct) ⟨us, ks.zip ws⟩ = pure (ps.zip (pmx ix (us ++ ws)))) :
    KBinds K fd ps ks (pmG n m ix) (pmG n m ix) := by
  obtain ⟨oc, od, kV, doc, pm, an, cdv, ct, osl, rfl, lk, hcd⟩ := F.ex
  refine ⟨fun s us ws _ hl => ?_, fun {vs us zs ws} r1 r2 => ?_⟩
  · unfold pmG at hl ⊢
    split at hl
    · rename_i e
      rw [if_pos e]
      exact .of_eq (h kV doc pm an cdv ct us ws e.1 e.2)
    · exact absurd (List.length_eq_zero_iff.mp hl.symm) hne
  · unfold pmG
    rw [r1.length, r2.length]
    split
    · exact pmx_vals (r1.append r2) ix
    · exact .nil
end
/-! ### a def that has no answer -/
theorem fn_bad {P : Program} {w : World} {K : PySem.W.Frag} {mg : Str → Option Value} {base : Heap} {CX : CXT} {c : Cc} {x qual : Str} {st : Stmt} {f : Addr} {fd : FuncData} {N ps : List Str} {k : Nat} {io : Bool} (F : Fun K x qual st f fd) (S : FnScope N ps (defScope st)) :
    FnOk P w K mg base CX (k + 1) f fd ps (spOf c io fun _ => .bad) := by
  have no : ∀ vs H Q E, ¬ spOf c io (fun _ => .bad) vs H Q E := fun vs H Q E h => by
    cases io with
    | false => obtain ⟨ds, Z, _, _, h⟩ := h; exact h.elim
    | true => obtain ⟨a, ws, vs', es, ds', Z, _, _, _, _, _, _, h⟩ := h; exact h.elim
  obtain ⟨oc, od, kV, doc, pm, an, cdv, ct, osl, rfl, lk, hcd⟩ := F.ex
  exact fn_of lk hcd S (fun vs H Q E h => absurd h (no vs H Q E)) fun A outer s H vs Q E hr h => absurd h (no vs H Q E)
end U
namespace U
set_option autoImplicit false
open PySem PySem.Spec PyProof.Rows L2

/-! ### list(range(..)), tuple(range(..)) -/
def rgOkB (a b : Int) : Bool := decide (a.natAbs < 4611686018427387904) && decide (b.natAbs < 4611686018427387904) && decide ((b - a).toNat ≤ 16777216)
theorem rgOk_of {a b : Int} (h : rgOkB a b = true) : RgOk a b := by
  unfold rgOkB at h
  simp only [Bool.and_eq_true, decide_eq_true_eq] at h
  exact ⟨by omega, by omega, by omega, by omega, by omega⟩
theorem rgV_rep {c : Cc} {A : Addr → Prop} {H : Hp} (a b : Int) : RepL c A H (rgV a b) (rgD a 1 (b - a).toNat) := by
  unfold rgV rgD
  generalize (b - a).toNat = n
  induction List.range n with
  | nil => exact .nil
  | cons i l ih =>
    rw [List.map_cons, List.map_cons, Int.mul_one]
    exact .cons (.int _) ih
def dLstRg (x : D) : Option (Bool × D) := match x with
  | .int n => if rgOkB 0 n then some (true, .lst (rgD 0 1 (n - 0).toNat)) else none
  | _ => none
def dTupRg (x : D) : Option (Bool × D) := match x with
  | .int n => if rgOkB 0 n then some (false, .tup (rgD 0 1 (n - 0).toNat)) else none
  | _ => none
def dLstRg2 (x y : D) : Option (Bool × D) := match x, y with
  | .int a, .int n => if rgOkB a n then some (true, .lst (rgD a 1 (n - a).toNat)) else none
  | _, _ => none
def dTupRg2 (x y : D) : Option (Bool × D) := match x, y with
  | .int a, .int n => if rgOkB a n then some (false, .tup (rgD a 1 (n - a).toNat)) else none
  | _, _ => none
section
variable {X : Cx} {c : Cc} {E : XK} {e a b : Expr} {p q : Pk} {p0 pos p1 pos1 : Pos}
theorem b_listRg (hc : X.calm = true) (hml : X.mg "list" = none) (hmr : X.mg "range" = none) (ha : DP X c E a p) (hgl : Gl X "list" := by rfl) (hgr : Gl X "range" := by rfl) (na : starEach [a] X.env = (false, eval a X.env) :: starEach [] X.env := by rfl)
    (na' : starEach [.Call (.Name "range" p1) [a] [] pos1] X.env = (false, eval (.Call (.Name "range" p1) [a] [] pos1) X.env) :: starEach [] X.env := by rfl) :
    DE X c E (.Call (.Name "list" p0) [.Call (.Name "range" p1) [a] [] pos1] [] pos) (op1 dLstRg p) := by
  refine de_op1 (r := fun x H Q => ∃ n, x = .int n ∧ (RgOk 0 n ∧ ∀ q, H q = none → Q (.ref q) (upd H q (.lst (rgV 0 n))))) ?_ ha fun {ta} h => pe_listRg hc hgl hml (prg_1 hgr hmr h na) na'
  intro A H x d1 fr d Q h1 h2 k
  unfold dLstRg at h2
  split at h2
  case h_2 => cases h2
  rename_i n
  split at h2
  case isFalse => cases h2
  rename_i hr
  cases h2
  exact ⟨n, repT_int h1, rgOk_of hr, fun q hq => k _ _ (new_lst hq (rgV_rep 0 n))⟩
theorem b_tupRg (hc : X.calm = true) (hml : X.mg "tuple" = none) (hmr : X.mg "range" = none) (ha : DP X c E a p) (hgl : Gl X "tuple" := by rfl) (hgr : Gl X "range" := by rfl) (na : starEach [a] X.env = (false, eval a X.env) :: starEach [] X.env := by rfl)
    (na' : starEach [.Call (.Name "range" p1) [a] [] pos1] X.env = (false, eval (.Call (.Name "range" p1) [a] [] pos1) X.env) :: starEach [] X.env := by rfl) :
    DE X c E (.Call (.Name "tuple" p0) [.Call (.Name "range" p1) [a] [] pos1] [] pos) (op1 dTupRg p) := by
  refine de_op1 (r := fun x H Q => ∃ n, x = .int n ∧ (RgOk 0 n ∧ ∀ q, H q = none → Q (.ref q) (upd H q (.tup (rgV 0 n))))) ?_ ha fun {ta} h => pe_tupRg hc hgl hml (prg_1 hgr hmr h na) na'
  intro A H x d1 fr d Q h1 h2 k
  unfold dTupRg at h2
  split at h2
  case h_2 => cases h2
  rename_i n
  split at h2
  case isFalse => cases h2
  rename_i hr
  cases h2
  exact ⟨n, repT_int h1, rgOk_of hr, fun q hq => k _ _ (new_tup hq (rgV_rep 0 n))⟩
theorem b_listRg2 (hc : X.calm = true) (hml : X.mg "list" = none) (hmr : X.mg "range" = none) (ha : DP X c E a p) (hb : DP X c E b q) (hgl : Gl X "list" := by rfl) (hgr : Gl X "range" := by rfl)
    (na : starEach [a, b] X.env = (false, eval a X.env) :: starEach [b] X.env := by rfl) (nb : starEach [b] X.env = (false, eval b X.env) :: starEach [] X.env := by rfl) (hp : (backTo pos1 (starEach [b] X.env)).any (·.1) = false := by rfl)
    (na' : starEach [.Call (.Name "range" p1) [a, b] [] pos1] X.env = (false, eval (.Call (.Name "range" p1) [a, b] [] pos1) X.env) :: starEach [] X.env := by rfl) :
    DE X c E (.Call (.Name "list" p0) [.Call (.Name "range" p1) [a, b] [] pos1] [] pos) (op2 dLstRg2 p q) := by
  refine de_op2 (r := fun x y H Q => ∃ i n, x = .int i ∧ y = .int n ∧ (RgOk i n ∧ ∀ q, H q = none → Q (.ref q) (upd H q (.lst (rgV i n))))) ?_ ha hb fun h h' => pe_listRg hc hgl hml (prg_2 hgr hmr h h' na nb hp) na'
  intro A H x y d1 d2 fr d Q h1 h1' h2 k
  unfold dLstRg2 at h2
  split at h2
  case h_2 => cases h2
  rename_i i n
  split at h2
  case isFalse => cases h2
  rename_i hr
  cases h2
  exact ⟨i, n, repT_int h1, repT_int h1', rgOk_of hr, fun q hq => k _ _ (new_lst hq (rgV_rep i n))⟩
theorem b_tupRg2 (hc : X.calm = true) (hml : X.mg "tuple" = none) (hmr : X.mg "range" = none) (ha : DP X c E a p) (hb : DP X c E b q) (hgl : Gl X "tuple" := by rfl) (hgr : Gl X "range" := by rfl)
    (na : starEach [a, b] X.env = (false, eval a X.env) :: starEach [b] X.env := by rfl) (nb : starEach [b] X.env = (false, eval b X.env) :: starEach [] X.env := by rfl) (hp : (backTo pos1 (starEach [b] X.env)).any (·.1) = false := by rfl)
    (na' : starEach [.Call (.Name "range" p1) [a, b] [] pos1] X.env = (false, eval (.Call (.Name "range" p1) [a, b] [] pos1) X.env) :: starEach [] X.env := by rfl) :
    DE X c E (.Call (.Name "tuple" p0) [.Call (.Name "range" p1) [a, b] [] pos1] [] pos) (op2 dTupRg2 p q) := by
  refine de_op2 (r := fun x y H Q => ∃ i n, x = .int i ∧ y = .int n ∧ (RgOk i n ∧ ∀ q, H q = none → Q (.ref q) (upd H q (.tup (rgV i n))))) ?_ ha hb fun h h' => pe_tupRg hc hgl hml (prg_2 hgr hmr h h' na nb hp) na'
  intro A H x y d1 d2 fr d Q h1 h1' h2 k
  unfold dTupRg2 at h2
  split at h2
  case h_2 => cases h2
  rename_i i n
  split at h2
  case isFalse => cases h2
  rename_i hr
  cases h2
  exact ⟨i, n, repT_int h1, repT_int h1', rgOk_of hr, fun q hq => k _ _ (new_tup hq (rgV_rep i n))⟩
end
end U
namespace U
set_option autoImplicit false
open PySem PySem.Spec PyProof.Rows L2

/-! ### the defs of a text -/
/-- the def st stands at the top under the name x -/
def Nm (K : PySem.W.Frag) (mg : Str → Option Value) (x : Str) (st : Stmt) : Prop := ∃ f fd, Fun K x x st f fd ∧ mg x = some (.ref f)
/-- .. and keeps its promise -/
def Okd (P : Program) (w : World) (K : PySem.W.Frag) (mg : Str → Option Value) (base : Heap) (CX : CXT) (c : Cc) (x : Str) (st : Stmt) (ps : List Str) (k : Nat) (io : Bool) (g : FD) : Prop :=
  ∃ f fd, Fun K x x st f fd ∧ mg x = some (.ref f) ∧ Binds K fd ps [] ∧ FnOk P w K mg base CX k f fd ps (spOf c io g)
def BindsP (x : Str) (st : Stmt) (ps : List Str) : Prop := ∀ (kV doc pm : Value) (an : Option Addr) (cdv ct : Value) (us : List Value), us.length = ps.length → bindArgs (PySem.W.fnOf x x (defArgs st) (defBody st) (defScope st) .none kV doc pm an cdv ct) ⟨us, []⟩ = pure (ps.zip us)
section
variable {P : Program} {w : World} {K : PySem.W.Frag} {mg : Str → Option Value} {base : Heap} {CX : CXT} {c : Cc} {x : Str} {st : Stmt} {N ps : List Str} {k : Nat} {b : SF} {io : Bool}
theorem okd_of (n : Nm K mg x st) (S : FnScope N ps (defScope st)) (hio : io = true → ps ≠ []) (hb : BindsP x st ps)
    (hbody : ∀ (f : Addr) (cdv : Value) (A : Around) (outer : List Env) (s : Shared) (H : Hp) (E : XK), Room k (A.deeper (envOfC x (defScope st) s.heap.objs.size f cdv)) →
      DSs (cxOf CX P w K mg base N x (defScope st) f cdv A outer s H E) c io E (defBody st) b) : Okd P w K mg base CX c x st ps (k + 1) io (runF ps.length N.length io b) := by
  obtain ⟨f, fd, F, hm⟩ := n
  exact ⟨f, fd, F, hm, F.binds hb, fn_den F S hio fun cdv A outer s H E hr => hbody f cdv A outer s H E hr⟩
theorem okd_bad (n : Nm K mg x st) (S : FnScope N ps (defScope st)) (hb : BindsP x st ps) : Okd P w K mg base CX c x st ps (k + 1) io fun _ => .bad := by
  obtain ⟨f, fd, F, hm⟩ := n
  exact ⟨f, fd, F, hm, F.binds hb, fn_bad F S⟩
end
section
variable {X : Cx} {CX : CXT} {c : Cc} {E : XK} {x : Str} {st : Stmt} {qs ks : List Str} {k j : Nat} {g : FD} {p pos : Pos} {e : Expr} {es : List Expr} {kws : List Keyword} {ps ps2 : List Pk}
theorem e_call (o : Okd X.prog X.w X.K X.mg X.base CX c x st qs k false g) (hr : Room j X.A) (hk : k ≤ j) (hx : Passes CX X E) (ha : DPs X c E (e :: es) ps) (hg : Gl X x := by rfl)
    (hdb : (x == ("__debug__" : Str)) = false := by decide) (he : starEach (e :: es) X.env = (false, eval e X.env) :: starEach es X.env := by rfl) (hpl : (backTo pos (starEach es X.env)).any (·.1) = false := by rfl) :
    DE X c E (.Call (.Name x p) (e :: es) [] pos) (fCall g ps) := by
  obtain ⟨f, fd, F, hm, hb, ok⟩ := o
  have := de_call dv_nil ok (hr.mono hk) hg hm F.kp hb .nil hx ha hdb he hpl (p := p)
  have e1 : (fun ds => g (ds ++ [])) = g := by funext ds; rw [List.append_nil]
  rw [e1] at this
  exact this
theorem e_call0 (o : Okd X.prog X.w X.K X.mg X.base CX c x st qs k false g) (hr : Room j X.A) (hk : k ≤ j) (hx : Passes CX X E) (hg : Gl X x := by rfl) (hdb : (x == ("__debug__" : Str)) = false := by decide) :
    DE X c E (.Call (.Name x p) [] [] pos) (fCall g []) := by
  obtain ⟨f, fd, F, hm, hb, ok⟩ := o
  have := de_call0 dv_nil ok (hr.mono hk) hg hm F.kp hb .nil hx hdb (p := p) (pos := pos)
  have e1 : (fun ds => g (ds ++ [])) = g := by funext ds; rw [List.append_nil]
  rw [e1] at this
  exact this
/-- how a call by names binds -/
def KwP (x : Str) (st : Stmt) (ps ks : List Str) (n m : Nat) (ix : List Nat) : Prop := ∀ (kV doc pm : Value) (an : Option Addr) (cdv ct : Value) (us ws : List Value), us.length = n → ws.length = m →
  bindArgs (PySem.W.fnOf x x (defArgs st) (defBody st) (defScope st) .none kV doc pm an cdv ct) ⟨us, ks.zip ws⟩ = pure (ps.zip (pmx ix (us ++ ws)))
theorem e_callK (m : Nat) (ix : List Nat) (o : Okd X.prog X.w X.K X.mg X.base CX c x st qs k false g) (hkw : KwP x st qs ks (e :: es).length m ix) (hne : qs ≠ []) (hr : Room j X.A) (hk : k ≤ j) (hx : Passes CX X E) (ha : DPs X c E (e :: es) ps) (hd : DK X c E kws ps2)
    (hlen : ps.length = (e :: es).length := by rfl) (hall : (backToKw pos (keywordEach kws X.env)).all (·.1.isSome) = true := by rfl) (hks : (backToKw pos (keywordEach kws X.env)).filterMap (·.1) = ks := by rfl) (hg : Gl X x := by rfl)
    (hdb : (x == ("__debug__" : Str)) = false := by decide) (he : starEach (e :: es) X.env = (false, eval e X.env) :: starEach es X.env := by rfl)
    (hpl : ((backTo pos (starEach (e :: es) X.env)).any (·.1) || (backToKw pos (keywordEach kws X.env)).any (·.1.isNone)) = false := by rfl) :
    DE X c E (.Call (.Name x p) (e :: es) kws pos) (fCall (fun ds => g (pmW ((e :: es).length + m) ix ds)) (ps ++ ps2)) := by
  obtain ⟨f, fd, F, hm, hb, ok⟩ := o
  exact de_callK pm_perm (fun vs zs h => pm_app vs zs h) ok (hr.mono hk) hg hm F.kp (kb_mk _ m ix F hne hkw) hx ha hd hlen hall hks hdb he hpl
theorem e_callK0 (m : Nat) (ix : List Nat) (o : Okd X.prog X.w X.K X.mg X.base CX c x st qs k false g) (hkw : KwP x st qs ks 0 m ix) (hne : qs ≠ []) (hr : Room j X.A) (hk : k ≤ j) (hx : Passes CX X E) (hd : DK X c E kws ps2)
    (hall : (backToKw pos (keywordEach kws X.env)).all (·.1.isSome) = true := by rfl) (hks : (backToKw pos (keywordEach kws X.env)).filterMap (·.1) = ks := by rfl) (hg : Gl X x := by rfl)
    (hdb : (x == ("__debug__" : Str)) = false := by decide) (hpl : ((backTo pos (starEach [] X.env)).any (·.1) || (backToKw pos (keywordEach kws X.env)).any (·.1.isNone)) = false := by rfl) :
    DE X c E (.Call (.Name x p) [] kws pos) (fCall (fun ds => g (pmW m ix ds)) ps2) := by
  obtain ⟨f, fd, F, hm, hb, ok⟩ := o
  first
    | exact de_callK0 pm_perm0 ok (hr.mono hk) hg hm F.kp (kb_mk _ m ix F hne hkw) hx hd hall hks hdb hpl
    | exact de_callK0 pm_perm0 ok (hr.mono hk) hg hm F.kp (kb_mk _ m ix F hne hkw) hx hd hall hks hdb
theorem e_callIO {i : Nat} {o : Expr} (ok : Okd X.prog X.w X.K X.mg X.base CX c x st qs k true g) (hr : Room j X.A) (hk : k ≤ j) (hx : Passes CX X E) (hv : PE X o (tVar i)) (ha : DPs X c E es ps) (hg : Gl X x := by rfl)
    (hs : starEach (o :: es) X.env = (false, eval o X.env) :: starEach es X.env := by rfl) (hdb : (x == ("__debug__" : Str)) = false := by decide) (hpl : (backTo pos (starEach es X.env)).any (·.1) = false := by rfl) :
    DE X c E (.Call (.Name x p) (o :: es) [] pos) (fCallIO g i ps) := by
  obtain ⟨f, fd, F, hm, hb, ok⟩ := ok
  exact de_callIO ok (hr.mono hk) hg hm F.kp hb hx hv ha hs hdb hpl
end
theorem nm_mk {K : PySem.W.Frag} {h : Heap} {mg : Str → Option Value} {x : Str} {st : Stmt} {f : Addr} {oc : Value} {od an : Option Addr} {osl : Array (Option Value)} {kV doc pm cdv ct : Value} (X : K.In h) (G : h.Ns mainGlobals mg)
    (a : PySem.W.nsIn K mainGlobals x = some (some (.ref f))) (l : K.lookup f = some ⟨oc, od, .func (PySem.W.fnOf x x (defArgs st) (defBody st) (defScope st) .none kV doc pm an cdv ct), osl⟩)
    (c : PySem.W.codeIn K cdv x = true) (k : PySem.W.keepIn K (.ref f) = true) : Nm K mg x st := ⟨f, _, fun_mk l c k, PySem.W.mg_of X G a⟩
end U
namespace U
set_option autoImplicit false
open PySem PySem.Spec PyProof.Rows L2

/-! ### the law at its head -/
theorem law_mk {P : Program} {w : World} {K : PySem.W.Frag} {mg : Str → Option Value} {CX : CXT} {c : Cc} {st : Stmt} {x nm : Str} {k : Nat} {g : FD} {fa : Addr} (n : Nm K mg nm st) (hb : BindsP nm st [x]) (hmg : mg nm = some (.ref fa))
    (ok : ∀ base : Heap, K.In base → base.Ns mainGlobals mg → Okd P w K mg base CX c nm st [x] k false g) :
    ∃ fd : FuncData, (∀ (s : Shared) (u : Value), BindsTo s fd ⟨[u], []⟩ [(x, u)]) ∧ ∀ base : Heap, K.In base → base.Ns mainGlobals mg → FnOk P w K mg base CX k fa fd [x] (spOf c false g) := by
  obtain ⟨f, fd, F, hm⟩ := n
  have e : f = fa := by
    rw [hm] at hmg
    cases hmg
    rfl
  subst e
  refine ⟨fd, fun s u => ?_, fun base h1 h2 => ?_⟩
  · obtain ⟨oc, od, kV, doc, pm, an, cdv, ct, osl, rfl, lk, hcd⟩ := F.ex
    exact .of_eq (hb kV doc pm an cdv ct [u] rfl)
  · obtain ⟨f', fd', F', hm', _, ok'⟩ := ok base h1 h2
    have e : f' = f := by
      rw [hm'] at hm
      cases hm
      rfl
    subst e
    obtain ⟨oc, od, kV, doc, pm, an, cdv, ct, osl, rfl, lk, hcd⟩ := F.ex
    obtain ⟨oc', od', kV', doc', pm', an', cdv', ct', osl', rfl, lk', hcd'⟩ := F'.ex
    rw [lk] at lk'
    cases lk'
    exact ok'
/-- the law's answer is True -/
def Yes (g : FD) (ns : List Int) : Prop := ∃ fr out, g [.scr ns] = .ok (fr, .bl true, out)
theorem law_sp {K : PySem.W.Frag} {c : Cc} {g : FD} {H : Hp} {a : Addr} {ns : List Int} (hK : K = c.K) (hO : L2.Only H) (hS : SqL K H a (ns.map V.int)) (y : Yes g ns) : spOf c false g [.ref a] H (fun v _ => v = .bl true) fun _ _ _ => False := by
  obtain ⟨fr, out, e⟩ := y
  have hF : SqF c.K H a (ns.map V.int) := by
    rw [hK] at hS
    rcases hS with (h | h) | h
    · rcases hO a with q | ⟨o, xs, q⟩
      · rw [q] at h; cases h
      · rw [q] at h; cases h
    · exact .inl h
    · exact .inr h
  refine ⟨[.scr ns], fun _ => False, fun _ h => h.elim, .cons (.scr hF) .nil, ?_⟩
  rw [e]
  intro v H' _ n
  cases fr with
  | true =>
    obtain ⟨a, ds, xs, _, _, h, _⟩ := n
    cases h
  | false =>
    have n : Rep c _ H' v (.bl true) := n
    cases n
    rfl
def cc0 (P : Program) (w : World) (K : PySem.W.Frag) : Cc := ⟨K, fun _ _ => False, fun _ => none, fun x => x, P, w⟩
end U
namespace U
set_option autoImplicit false
open PySem L2

/-! ### reckoning with denotations -/
def O.wp {α : Type} (o : O α) (Q : α → Prop) : Prop := match o with
  | .ok a => Q a
  | _ => False
section
variable {α β : Type}
@[simp] theorem O.bind_ok (a : α) (f : α → O β) : (O.ok a).bind f = f a := rfl
@[simp] theorem O.bind_ex (k : Str) (d : D) (ρ : En) (f : α → O β) : (O.ex k d ρ : O α).bind f = .ex k d ρ := rfl
@[simp] theorem O.bind_bad (f : α → O β) : (O.bad : O α).bind f = .bad := rfl
@[simp] theorem O.wp_ok (a : α) (Q : α → Prop) : (O.ok a).wp Q = Q a := rfl
theorem O.wp_bind {o : O α} {f : α → O β} {Q : β → Prop} (h : o.wp fun a => (f a).wp Q) : (o.bind f).wp Q := by
  cases o with
  | ok a => exact h
  | ex k d ρ => exact h
  | bad => exact h
theorem O.wp_ex {o : O α} {Q : α → Prop} (h : o.wp Q) : ∃ a, o = .ok a ∧ Q a := by
  cases o with
  | ok a => exact ⟨a, rfl, h⟩
  | ex k d ρ => exact h.elim
  | bad => exact h.elim
theorem O.wp_mono {o : O α} {Q Q' : α → Prop} (h : o.wp Q) (k : ∀ a, Q a → Q' a) : o.wp Q' := by
  cases o with
  | ok a => exact k a h
  | ex k d ρ => exact h
  | bad => exact h
theorem O.wp_of {o : O α} {Q : α → Prop} {a : α} (h : o = .ok a) (q : Q a) : o.wp Q := by rw [h]; exact q
end
section
variable (ρ : En) (d : D) (i j : Nat) (f g h : EF) (p q : Pk) (ps : List Pk) (fs : List EF) (s t : SF) (ta tb : TF)
@[simp] theorem r_fC : fC d ρ = .ok (false, d, ρ) := rfl
@[simp] theorem r_var : fVar i ρ = match ρ[i]? with
  | some (some (_, d)) => .ok (false, d, ρ.set i (some (false, d)))
  | _ => .bad := by unfold fVar; rfl
@[simp] theorem r_mv : fMv i ρ = match ρ[i]? with
  | some (some (true, d)) => .ok (true, d, ρ.set i none)
  | some (some (false, d)) => .ok (false, d, ρ)
  | _ => .bad := by unfold fMv; rfl
@[simp] theorem r_pv : Pk.ev (.val f) ρ = (f ρ).bind fun r => .ok (some r.2.1, r.2.2) := rfl
@[simp] theorem r_pr : Pk.ev (.var i) ρ = match ρ[i]? with
  | some (some _) => .ok (none, ρ)
  | _ => .bad := rfl
@[simp] theorem r_get1 : Pk.get p (some d) ρ = some d := rfl
@[simp] theorem r_get0 : Pk.get (.var i) none ρ = slotD ρ i := rfl
@[simp] theorem r_slot : slotD ρ i = match ρ[i]? with
  | some (some (_, d)) => some d
  | _ => none := rfl
@[simp] theorem r_op2 (k : D → D → Option (Bool × D)) : op2 k p q ρ = (p.ev ρ).bind fun a => (q.ev a.2).bind fun b => get2 k (p.get a.1 b.2) (q.get b.1 b.2) b.2 := rfl
@[simp] theorem r_get2 (k : D → D → Option (Bool × D)) (x y : D) : get2 k (some x) (some y) ρ = match k x y with
  | some r => .ok (r.1, r.2, ρ)
  | none => .bad := rfl
@[simp] theorem r_op1 (k : D → Option (Bool × D)) : op1 k p ρ = (p.ev ρ).bind fun a => match p.get a.1 a.2 with
  | some x => match k x with
    | some r => .ok (r.1, r.2, a.2)
    | none => .bad
  | none => .bad := rfl
@[simp] theorem r_opN (k : List D → Option (Bool × D)) : opN k ps ρ = (Pk.evs ps ρ).bind fun a => match Pk.gets ps a.1 a.2 with
  | some x => match k x with
    | some r => .ok (r.1, r.2, a.2)
    | none => .bad
  | none => .bad := rfl
@[simp] theorem r_evs0 : Pk.evs [] ρ = .ok ([], ρ) := rfl
@[simp] theorem r_evs1 : Pk.evs (p :: ps) ρ = (p.ev ρ).bind fun a => (Pk.evs ps a.2).bind fun b => .ok (a.1 :: b.1, b.2) := rfl
@[simp] theorem r_gets0 : Pk.gets [] [] ρ = some [] := rfl
@[simp] theorem r_gets1 (o : Option D) (os : List (Option D)) : Pk.gets (p :: ps) (o :: os) ρ = match p.get o ρ, Pk.gets ps os ρ with
  | some d, some ds => some (d :: ds)
  | _, _ => none := rfl
@[simp] theorem r_evA0 : evA [] ρ = .ok ([], ρ) := rfl
@[simp] theorem r_evA1 : evA (f :: fs) ρ = (f ρ).bind fun a => (evA fs a.2.2).bind fun b => .ok (a.2.1 :: b.1, b.2) := rfl
@[simp] theorem r_tup : fTup fs ρ = (evA fs ρ).bind fun a => if a.1.length ≤ 16777216 then .ok (false, .tup a.1, a.2) else .bad := rfl
@[simp] theorem r_lst : fLst fs ρ = (evA fs ρ).bind fun a => if a.1.length ≤ 16777216 then .ok (true, .lst a.1, a.2) else .bad := rfl
@[simp] theorem r_if : fIf ta f g ρ = (ta ρ).bind fun r => if r.1 = true then f r.2 else g r.2 := rfl
@[simp] theorem r_and : fAnd p g ρ = (tOf p ρ).bind fun r => if r.1 = true then g r.2 else .ok (false, .bl false, r.2) := rfl
@[simp] theorem r_or : fOr p g ρ = (tOf p ρ).bind fun r => if r.1 = true then .ok (false, .bl true, r.2) else g r.2 := rfl
@[simp] theorem r_not : fNot p ρ = (tOf p ρ).bind fun r => .ok (false, .bl (!r.1), r.2) := rfl
@[simp] theorem r_tOf : tOf p ρ = (p.ev ρ).bind fun a => match p.get a.1 a.2 with
  | some (.bl b) => .ok (b, a.2)
  | _ => .bad := rfl
@[simp] theorem r_tOp2 (k : D → D → Option Bool) : tOp2 k p q ρ = (p.ev ρ).bind fun a => (q.ev a.2).bind fun b => match p.get a.1 b.2, q.get b.1 b.2 with
  | some x, some y => match k x y with
    | some k => .ok (k, b.2)
    | none => .bad
  | _, _ => .bad := rfl
@[simp] theorem r_tNo : tNo ta ρ = (ta ρ).bind fun r => .ok (!r.1, r.2) := rfl
@[simp] theorem r_tAn : tAn ta tb ρ = (ta ρ).bind fun r => if r.1 = true then tb r.2 else .ok (false, r.2) := rfl
@[simp] theorem r_tOr : tOr' ta tb ρ = (ta ρ).bind fun r => if r.1 = true then .ok (true, r.2) else tb r.2 := rfl
@[simp] theorem r_tAll0 : tAll [] ρ = .ok (true, ρ) := rfl
@[simp] theorem r_blO (k : D → D → Option Bool) (x y : D) : blO k x y = (k x y).map fun b => (false, .bl b) := rfl
@[simp] theorem r_nil : sNil ρ = .ok (.nx, ρ) := rfl
@[simp] theorem r_seq : sSeq s t ρ = (s ρ).bind fun r => match r.1 with
  | .nx => t r.2
  | _ => .ok r := rfl
@[simp] theorem r_set : sSet i f ρ = (f ρ).bind fun r => .ok (.nx, r.2.2.set i (some (r.1, r.2.1))) := rfl
@[simp] theorem r_exp : sExp f ρ = (f ρ).bind fun r => .ok (.nx, r.2.2) := rfl
@[simp] theorem r_ret : sRet f ρ = (f ρ).bind fun r => .ok (.rt r.1 r.2.1, r.2.2) := rfl
@[simp] theorem r_retN : sRetN ρ = .ok (.rt false .non, ρ) := rfl
@[simp] theorem r_sIf : sIf ta s t ρ = (ta ρ).bind fun r => if r.1 = true then s r.2 else t r.2 := rfl
@[simp] theorem r_bk : sBk ρ = .ok (.bk, ρ) := rfl
@[simp] theorem r_ct : sCt ρ = .ok (.ct, ρ) := rfl
@[simp] theorem r_asg (tg : Tg) : sAsg tg f ρ = (f ρ).bind fun r => match tg r.2.1 r.2.2 with
  | some ρ' => .ok (.nx, ρ')
  | none => .bad := rfl
@[simp] theorem r_gN : gN i d ρ = some (ρ.set i (some (false, d))) := rfl
@[simp] theorem r_gT (ts : List Tg) (ds : List D) : gT ts (.tup ds) ρ = gTs ts ds ρ := rfl
@[simp] theorem r_gTs0 : gTs [] [] ρ = some ρ := rfl
@[simp] theorem r_gTs1 (tg : Tg) (ts : List Tg) (ds : List D) : gTs (tg :: ts) (d :: ds) ρ = match tg d ρ with
  | some ρ' => gTs ts ds ρ'
  | none => none := rfl
@[simp] theorem r_par (r : List (Nat × EF)) : sPar r ρ = (parF r ρ).bind fun ρ' => .ok (.nx, ρ') := rfl
@[simp] theorem r_par0 : parF [] ρ = .ok ρ := rfl
@[simp] theorem r_par1 (r : List (Nat × EF)) : parF ((i, f) :: r) ρ = (f ρ).bind fun a => (parF r a.2.2).bind fun ρ2 => .ok (ρ2.set i (some (a.1, a.2.1))) := rfl
@[simp] theorem r_for (fi : IF) (tg : Tg) : sFor fi tg s ρ = (fi ρ).bind fun r => forL tg s r.1 r.2 := rfl
@[simp] theorem r_itS : fItS f ρ = (f ρ).bind fun r => match seqOf r.2.1 with
  | some ds => .ok (ds, r.2.2)
  | none => .bad := rfl
@[simp] theorem r_rg (k : List D → Option (List D)) : fRg k ps ρ = (Pk.evs ps ρ).bind fun a => match Pk.gets ps a.1 a.2 with
  | some ds => match k ds with
    | some r => .ok (r, a.2)
    | none => .bad
  | none => .bad := rfl
@[simp] theorem r_seqT (ds : List D) : seqOf (.tup ds) = some ds := rfl
@[simp] theorem r_seqL (ds : List D) : seqOf (.lst ds) = some ds := rfl
@[simp] theorem r_seqS (ns : List Int) : seqOf (.scr ns) = some (ns.map .int) := rfl
@[simp] theorem r_enum : fEnum f ρ = (evA [f] ρ).bind fun r => match r.1 with
  | [d] => match seqOf d with
    | some ds => .ok (enD 0 ds, r.2)
    | none => .bad
  | _ => .bad := rfl
@[simp] theorem r_zip : fZip f g ρ = (evA [f, g] ρ).bind fun r => match r.1 with
  | [d, e] => match seqOf d, seqOf e with
    | some ds, some es => if d.isTup == e.isTup then .ok (zpD ds es, r.2) else .bad
    | _, _ => .bad
  | _ => .bad := rfl
@[simp] theorem r_call (k : FD) : fCall k ps ρ = (Pk.evs ps ρ).bind fun a => match Pk.gets ps a.1 a.2 with
  | some ds => callRes ps a.2 (k ds)
  | none => .bad := rfl
@[simp] theorem r_res (r : Bool × D × List D) : callRes ps ρ (.ok r) = .ok (r.1, r.2.1, if (if r.1 then r.2.1.calm else r.2.1.imm) then ρ else frzAll ps ρ) := rfl
@[simp] theorem r_resX (k : Str) (ρ' : En) : callRes ps ρ (.ex k d ρ') = .ex k d (frzAll ps ρ) := rfl
@[simp] theorem r_callIO (k : FD) : fCallIO k i ps ρ = match ρ[i]? with
  | some (some (true, _)) => (Pk.evs ps ρ).bind fun a => match Pk.gets ps a.1 a.2 with
    | some ds => match a.2[i]? with
      | some (some (true, .lst es0)) => if ps.all (fun p => !p.isVar i) then callResIO i ps a.2 (k (.lst es0 :: ds)) else .bad
      | _ => .bad
    | none => .bad
  | _ => .bad := by unfold fCallIO; rfl
@[simp] theorem r_resIO (fr : Bool) (es : List D) : callResIO i ps ρ (.ok (fr, d, [.lst es])) = .ok (fr, d, if (if fr then d.calm else d.imm) && D.immL es then ρ.set i (some (true, .lst es)) else (frzAll ps ρ).set i (some (true, .lst es))) := rfl
@[simp] theorem r_isVar0 : (Pk.val f).isVar j = false := rfl
@[simp] theorem r_isVar1 : (Pk.var i).isVar j = (i == j) := rfl
@[simp] theorem r_mut (k : MG) : fMut k i fs ρ = match ρ[i]? with
  | some (some (true, .lst _)) => (evA fs ρ).bind fun a => match a.2[i]? with
    | some (some (true, .lst ds)) => match k ds a.1 with
      | some r => .ok (false, r.1, a.2.set i (some (true, .lst r.2)))
      | none => .bad
    | _ => .bad
  | _ => .bad := by unfold fMut; rfl
@[simp] theorem r_ix : sIx i f g ρ = (g ρ).bind fun r => match r.2.2[i]? with
  | some (some (true, .lst _)) => (f r.2.2).bind fun s => match s.2.1, s.2.2[i]? with
    | .int k, some (some (true, .lst ds)) => match ixN ds.length k with
      | some j => .ok (.nx, s.2.2.set i (some (true, .lst (ds.set j r.2.1))))
      | none => .bad
    | _, _ => .bad
  | _ => .bad := by unfold sIx; rfl
@[simp] theorem r_sl (lo hi : Option EF) : fSl p lo hi ρ = (p.ev ρ).bind fun a => (fSlP lo a.2).bind fun l => (fSlP hi l.2).bind fun h => match p.get a.1 h.2 with
  | some d => match dSl l.1 h.1 d with
    | some r => .ok (r.1, r.2, h.2)
    | none => .bad
  | none => .bad := by unfold fSl; rfl
@[simp] theorem r_slP0 : fSlP none ρ = .ok (none, ρ) := rfl
theorem r_run (np nn : Nat) (io : Bool) (ds : List D) (hl : ds.length = np) : runF np nn io s ds = finF io (s (slots0 io ds ++ List.replicate (nn - np) none)) := by unfold runF; rw [if_pos hl]
end
section
variable {t : Tg} {b : SF} {Q : Fl × En → Prop}
/-- a for loop: I by what is left and the slots -/
theorem forL_wp (I : List D → En → Prop) (hs : ∀ d ds ρ, I (d :: ds) ρ → ∃ ρ1, t d ρ = some ρ1 ∧ (b ρ1).wp fun r => match r.1 with
    | .nx => I ds r.2
    | .ct => I ds r.2
    | .bk => Q (.nx, r.2)
    | .rt fr d => Q (.rt fr d, r.2)) (hd : ∀ ρ, I [] ρ → Q (.nx, ρ)) : ∀ (ds : List D) (ρ : En), I ds ρ → (forL t b ds ρ).wp Q
  | [], ρ, h => hd ρ h
  | d :: ds, ρ, h => by
    obtain ⟨ρ1, e, w⟩ := hs d ds ρ h
    unfold forL
    rw [e]
    refine O.wp_bind (O.wp_mono w fun r h => ?_)
    obtain ⟨fl, ρ2⟩ := r
    cases fl with
    | nx => exact forL_wp I hs hd ds ρ2 h
    | ct => exact forL_wp I hs hd ds ρ2 h
    | bk => exact h
    | rt fr d => exact h
/-- a comprehension: I by what is made, what is left, and the slots -/
theorem lcL_wp {vs : List Nat} {cs : TF} {f : EF} {Q : List D × En → Prop} (I : List D → List D → En → Prop) (hs : ∀ acc d ds ρ, I acc (d :: ds) ρ → ∃ ρ1, t d (wipeE ρ vs) = some ρ1 ∧ (cs ρ1).wp fun r => if r.1 = true then (f r.2).wp fun a => I (acc ++ [a.2.1]) ds a.2.2 else I acc ds r.2) :
    ∀ (ds : List D) (acc : List D) (ρ : En), I acc ds ρ → (∀ l ρ, I l [] ρ → ∀ l', l = acc ++ l' → Q (l', ρ)) → (lcL vs t cs f ds ρ).wp Q
  | [], acc, ρ, h, hd => hd acc ρ h [] (by simp)
  | d :: ds, acc, ρ, h, hd => by
    obtain ⟨ρ1, e, w⟩ := hs acc d ds ρ h
    unfold lcL
    rw [e]
    refine O.wp_bind (O.wp_mono w fun r h => ?_)
    by_cases hr : r.1 = true
    · rw [if_pos hr] at h ⊢
      refine O.wp_bind (O.wp_mono h fun a h => ?_)
      refine O.wp_bind (lcL_wp I hs ds (acc ++ [a.2.1]) a.2.2 h fun l ρ2 h2 l' e' => ?_)
      exact hd l ρ2 h2 (a.2.1 :: l') (by rw [e', List.append_assoc]; rfl)
    · rw [if_neg hr] at h ⊢
      exact lcL_wp I hs ds acc r.2 h hd
theorem fLc_wp {vs : List Nat} {fi : IF} {cs : TF} {f : EF} {ρ : En} {Q : Bool × D × En → Prop} (I : List D → List D → En → Prop)
    (h : (fi ρ).wp fun r => noOwn r.2 vs = true ∧ r.1.length ≤ 16777216 ∧ I [] r.1 r.2 ∧ ∀ l ρ2, I l [] ρ2 → Q (true, .lst l, backE r.2 ρ2 vs))
    (hs : ∀ acc d ds ρ, I acc (d :: ds) ρ → ∃ ρ1, t d (wipeE ρ vs) = some ρ1 ∧ (cs ρ1).wp fun r => if r.1 = true then (f r.2).wp fun a => I (acc ++ [a.2.1]) ds a.2.2 else I acc ds r.2) : (fLc vs fi t cs f ρ).wp Q := by
  unfold fLc
  refine O.wp_bind (O.wp_mono h fun r h => ?_)
  obtain ⟨h1, h2, h3, h4⟩ := h
  rw [if_pos (by rw [h1, decide_eq_true h2]; rfl)]
  obtain ⟨w, e, q⟩ := O.wp_ex (lcL_wp (Q := fun w => Q (true, .lst w.1, backE r.2 w.2 vs)) I hs r.1 [] r.2 h3 fun l ρ2 h l' e => by
    rw [List.nil_append] at e
    subst e
    exact h4 l ρ2 h)
  rw [e]
  exact q
end
end U
namespace U
set_option autoImplicit false
open PySem PySem.Spec PyProof.Rows L2

/-! ### what is never reached -/
def sBad : SF := fun _ => .bad
def fBad : EF := fun _ => .bad
theorem ds_bad {X : Cx} {c : Cc} {pr : Bool} {E : XK} {st : Stmt} : DS X c pr E st sBad := ⟨⟨fun pins s σ H D I q => by obtain ⟨ρ, Z, B, _, q⟩ := q; exact q.elim⟩⟩
theorem de_bad {X : Cx} {c : Cc} {E : XK} {e : Expr} : DE X c E e fBad := ⟨⟨fun pins s σ H Q I q => by obtain ⟨ρ, Z, B, _, q⟩ := q; exact q.elim⟩⟩
/-! ### x += e, x -= e, of ints -/
def sAug (i : Nat) (g : Int → Int → Int) (f : EF) : SF := fun ρ => match slotD ρ i with
  | some (.int a) => (f ρ).bind fun r => match r.2.1 with
    | .int b => .ok (.nx, r.2.2.set i (some (false, .int (g a b))))
    | _ => .bad
  | _ => .bad
section
variable {X : Cx} {c : Cc} {pr : Bool} {E : XK} {e : Expr} {f : EF} {pos pos' : Pos} {i : Nat} {x : Str}
theorem ds_aug {op : Operator} {g : Int → Int → Int} (ho : PIp X op (ipI g)) (he : DE X c E e f) (hN : X.N.Nodup) (hi : X.N[i]? = some x) (hx : Loc X.env.scope x) (hp : pr = true → i ≠ 0) (hf : X.fn x = true ∨ X.env.scope.names.lookup x = some .local := by first | exact .inl rfl | exact .inr rfl | assumption) :
    DS X c pr E (.AugAssign (.Name x pos') op e pos) (sAug i g f) := by
  refine ⟨ps_imp (ps_aug hN hi hx he.pe ho hf) fun T σ H ⟨ρ, Z, B, r0, q⟩ => ?_⟩
  unfold sAug at q
  split at q
  case h_2 => exact q.elim
  rename_i a hs
  obtain ⟨v, hv, e1⟩ : ∃ v, σ[i]? = some (some v) ∧ v = .int a := by
    have hv' : ∃ b, ρ[i]? = some (some (b, .int a)) := by
      unfold slotD at hs
      split at hs
      · rename_i b d' e; cases hs; exact ⟨b, e⟩
      · cases hs
    obtain ⟨b, hb⟩ := hv'
    cases b with
    | true =>
      obtain ⟨_, _, _, _, h, _⟩ := r0.own i _ hb
      cases h
    | false =>
      obtain ⟨v, h1, h2⟩ := r0.frz i _ hb
      cases h2
      exact ⟨_, h1, rfl⟩
  subst e1
  refine ⟨.int a, hv, ρ, Z, B, r0, O.sat_then (o := f ρ) q (fun r hr w H1 r1 v1 => ?_) fun _ _ _ h => h.xw⟩
  split at hr
  case h_2 => exact hr.elim
  rename_i b hb
  have v2 := v1.rep
  rw [hb] at v2
  cases v2
  exact ⟨a, b, rfl, rfl, hr _ H1 (fun p => set_zero (hp p)) (r1.assign (fr := false) (.int (g a b)) i)⟩
end
/-! ### lists of ints -/
def intsD : List D → Option (List Int)
  | [] => some []
  | .int i :: ds => (intsD ds).map (i :: ·)
  | _ :: _ => none
theorem intsD_map : ∀ {ds : List D} {ns : List Int}, intsD ds = some ns → ds = ns.map .int
  | [], ns, h => by cases h; rfl
  | d :: ds, ns, h => by
    cases d with
    | int i =>
      unfold intsD at h
      cases q : intsD ds with
      | none => rw [q] at h; cases h
      | some ms =>
        rw [q] at h
        cases h
        rw [List.map_cons, ← intsD_map q]
    | _ => cases h
theorem intsD_of : ∀ ns : List Int, intsD (ns.map .int) = some ns
  | [] => rfl
  | n :: ns => by rw [List.map_cons, intsD, intsD_of ns]; rfl
theorem repL_intsV {c : Cc} {A : Addr → Prop} {H : Hp} : ∀ {ns : List Int} {xs : List V}, RepL c A H xs (ns.map .int) → xs = ns.map V.int
  | [], _, h => by cases h; rfl
  | n :: ns, _, h => by
    cases h with
    | cons h1 h2 =>
      cases h1
      rw [List.map_cons, repL_intsV h2]
def dSum : List D → Option (Bool × D)
  | [.lst ds] => (intsD ds).map fun ns => (false, .int ns.sum)
  | _ => none
def maxI : List Int → Option Int
  | [] => none
  | x :: xs => some (xs.foldl max x)
def minI : List Int → Option Int
  | [] => none
  | x :: xs => some (xs.foldl min x)
def dMax : List D → Option (Bool × D)
  | [.lst ds] => ((intsD ds).bind maxI).map fun m => (false, .int m)
  | _ => none
def dMin : List D → Option (Bool × D)
  | [.lst ds] => ((intsD ds).bind minI).map fun m => (false, .int m)
  | _ => none
/-- sorted -/
def insI (x : Int) : List Int → List Int
  | [] => [x]
  | y :: ys => if x ≤ y then x :: y :: ys else y :: insI x ys
def sortI (l : List Int) : List Int := l.foldr insI []
theorem insI_perm (x : Int) : ∀ l : List Int, List.Perm (insI x l) (x :: l)
  | [] => .refl _
  | y :: ys => by
    unfold insI
    split
    · exact .refl _
    · exact ((insI_perm x ys).cons y).trans (.swap _ _ _)
theorem sortI_perm : ∀ l : List Int, List.Perm (sortI l) l
  | [] => .refl _
  | x :: l => (insI_perm x _).trans ((sortI_perm l).cons x)
theorem insI_sorted (x : Int) : ∀ {l : List Int}, l.Pairwise (· ≤ ·) → (insI x l).Pairwise (· ≤ ·)
  | [], _ => List.pairwise_singleton _ _
  | y :: ys, h => by
    have h' := List.pairwise_cons.mp h
    unfold insI
    split
    · rename_i hx
      refine List.pairwise_cons.mpr ⟨fun z hz => ?_, h⟩
      rcases List.mem_cons.mp hz with e | e
      · rw [e]; exact hx
      · exact Int.le_trans hx (h'.1 z e)
    · rename_i hx
      refine List.pairwise_cons.mpr ⟨fun z hz => ?_, insI_sorted x h'.2⟩
      rcases List.mem_cons.mp ((insI_perm x ys).mem_iff.mp hz) with e | e
      · rw [e]; omega
      · exact h'.1 z e
theorem sortI_sorted : ∀ l : List Int, (sortI l).Pairwise (· ≤ ·)
  | [] => List.Pairwise.nil
  | x :: l => insI_sorted x (sortI_sorted l)
theorem sorted_one : ∀ {l l' : List Int}, l.Perm l' → l.Pairwise (· ≤ ·) → l'.Pairwise (· ≤ ·) → l = l'
  | [], l', p, _, _ => (List.Perm.nil_eq p)
  | x :: l, [], p, _, _ => absurd p.length_eq (by simp)
  | x :: l, y :: l', p, h, h' => by
    have a := List.pairwise_cons.mp h
    have b := List.pairwise_cons.mp h'
    have e : x = y := by
      have h1 : y ∈ x :: l := p.mem_iff.mpr List.mem_cons_self
      have h2 : x ∈ y :: l' := p.mem_iff.mp List.mem_cons_self
      rcases List.mem_cons.mp h1 with q | q
      · exact q.symm
      · rcases List.mem_cons.mp h2 with r | r
        · exact r
        · have := a.1 y q
          have := b.1 x r
          omega
    subst e
    rw [sorted_one (List.Perm.cons_inv p) a.2 b.2]
def dSortedS : List D → Option (Bool × D)
  | [.lst ds] => (intsD ds).map fun ns => (true, .lst ((sortI ns).map .int))
  | _ => none
theorem foldmax_mem : ∀ (xs : List Int) (x : Int), xs.foldl max x ∈ x :: xs ∧ ∀ y ∈ x :: xs, y ≤ xs.foldl max x
  | [], x => ⟨List.mem_cons_self, fun y hy => by rcases List.mem_cons.mp hy with e | e; rw [e]; exact Int.le_refl _; exact (List.not_mem_nil e).elim⟩
  | z :: xs, x => by
    obtain ⟨h1, h2⟩ := foldmax_mem xs (max x z)
    rw [List.foldl_cons]
    refine ⟨?_, fun y hy => ?_⟩
    · rcases List.mem_cons.mp h1 with e | e
      · rw [e]
        by_cases hxz : x ≤ z
        · rw [Int.max_eq_right hxz]; exact List.mem_cons_of_mem _ List.mem_cons_self
        · rw [Int.max_eq_left (by omega)]; exact List.mem_cons_self
      · exact List.mem_cons_of_mem _ (List.mem_cons_of_mem _ e)
    · have h3 := h2 (max x z) List.mem_cons_self
      rcases List.mem_cons.mp hy with e | e
      · rw [e]; omega
      · rcases List.mem_cons.mp e with e | e
        · rw [e]; omega
        · exact h2 y (List.mem_cons_of_mem _ e)
theorem foldmin_mem : ∀ (xs : List Int) (x : Int), xs.foldl min x ∈ x :: xs ∧ ∀ y ∈ x :: xs, xs.foldl min x ≤ y
  | [], x => ⟨List.mem_cons_self, fun y hy => by rcases List.mem_cons.mp hy with e | e; rw [e]; exact Int.le_refl _; exact (List.not_mem_nil e).elim⟩
  | z :: xs, x => by
    obtain ⟨h1, h2⟩ := foldmin_mem xs (min x z)
    rw [List.foldl_cons]
    refine ⟨?_, fun y hy => ?_⟩
    · rcases List.mem_cons.mp h1 with e | e
      · rw [e]
        by_cases hxz : x ≤ z
        · rw [Int.min_eq_left hxz]; exact List.mem_cons_self
        · rw [Int.min_eq_right (by omega)]; exact List.mem_cons_of_mem _ List.mem_cons_self
      · exact List.mem_cons_of_mem _ (List.mem_cons_of_mem _ e)
    · have h3 := h2 (min x z) List.mem_cons_self
      rcases List.mem_cons.mp hy with e | e
      · rw [e]; omega
      · rcases List.mem_cons.mp e with e | e
        · rw [e]; omega
        · exact h2 y (List.mem_cons_of_mem _ e)
section
variable {X : Cx} {c : Cc}
/-- one list of ints -/
theorem one_ints (hK : X.K = c.K) {A : Addr → Prop} {H : Hp} {vs : List V} {ds : List D} {ns : List Int} (h : RepTs c A H vs [.lst ds]) (e : intsD ds = some ns) : ∃ a, vs = [.ref a] ∧ SqL X.K H a (ns.map V.int) := by
  obtain ⟨v, rfl, hv⟩ := repTs1 h
  obtain ⟨a, xs, rfl, h1, h2⟩ := repT_lst hv
  rw [intsD_map e] at h2
  rw [repL_intsV h2] at h1
  exact ⟨a, rfl, .inl (.inl h1)⟩
theorem gs_sum (hK : X.K = c.K) : GSN c dSum (rSum X.K) := by
  intro A H vs ds fr d Q h e k
  unfold dSum at e
  split at e
  case h_2 => cases e
  rename_i ds
  cases q : intsD ds with
  | none => rw [q] at e; cases e
  | some ns =>
    rw [q] at e
    cases e
    obtain ⟨a, rfl, h1⟩ := one_ints hK h q
    exact ⟨a, ns, rfl, h1, k _ H (new_self (.int _))⟩
theorem gs_sorted (hK : X.K = c.K) : GSN c dSortedS (rSortedI X.K) := by
  intro A H vs ds fr d Q h e k
  unfold dSortedS at e
  split at e
  case h_2 => cases e
  rename_i ds
  cases q : intsD ds with
  | none => rw [q] at e; cases e
  | some ns =>
    rw [q] at e
    cases e
    obtain ⟨a, rfl, h1⟩ := one_ints hK h q
    refine ⟨a, ns, rfl, h1, fun ns' p hp hs np => ?_⟩
    have : ns' = sortI ns := sorted_one (hp.trans (sortI_perm ns).symm) hs (sortI_sorted ns)
    subst this
    exact k _ _ (new_lst np (repL_ints _))
theorem gs_max (hK : X.K = c.K) : GSN c dMax (rMax X.K) := by
  intro A H vs ds fr d Q h e k
  unfold dMax at e
  split at e
  case h_2 => cases e
  rename_i ds
  cases q : intsD ds with
  | none => rw [q] at e; cases e
  | some ns =>
    rw [q] at e
    obtain ⟨a, rfl, h1⟩ := one_ints hK h q
    cases ns with
    | nil => cases e
    | cons x xs =>
      cases e
      refine ⟨a, x :: xs, rfl, h1, by simp, fun m hm hy => ?_⟩
      obtain ⟨g1, g2⟩ := foldmax_mem xs x
      have : m = xs.foldl max x := Int.le_antisymm (g2 m hm) (hy _ g1)
      subst this
      exact k _ H (new_self (.int _))
theorem gs_min (hK : X.K = c.K) : GSN c dMin (rMin X.K) := by
  intro A H vs ds fr d Q h e k
  unfold dMin at e
  split at e
  case h_2 => cases e
  rename_i ds
  cases q : intsD ds with
  | none => rw [q] at e; cases e
  | some ns =>
    rw [q] at e
    obtain ⟨a, rfl, h1⟩ := one_ints hK h q
    cases ns with
    | nil => cases e
    | cons x xs =>
      cases e
      refine ⟨a, x :: xs, rfl, h1, by simp, fun m hm hy => ?_⟩
      obtain ⟨g1, g2⟩ := foldmin_mem xs x
      have : m = xs.foldl min x := Int.le_antisymm (hy _ g1) (g2 m hm)
      subst this
      exact k _ H (new_self (.int _))
end
section
variable {X : Cx} {c : Cc} {E : XK} {e : Expr} {ps : List Pk} {p pos : Pos}
theorem b_sum (hK : X.K = c.K) (hc : X.calm = true) (hm : X.mg "sum" = none) (ha : DPs X c E [e] ps) (hg : Gl X "sum" := by rfl) (hs : starEach [e] X.env = (false, eval e X.env) :: starEach [] X.env := by rfl) (hpl : (backTo pos (starEach [] X.env)).any (·.1) = false := by rfl) : DE X c E (.Call (.Name "sum" p) [e] [] pos) (opN dSum ps) :=
  de_opN (gs_sum hK) ha fun h => pe_callB (cr_sum hc) hg hm (by rfl) h (by decide) (by decide) hs hpl
theorem b_sortedS (hK : X.K = c.K) (hm : X.mg "sorted" = none) (ha : DPs X c E [e] ps) (hg : Gl X "sorted" := by rfl) (hs : starEach [e] X.env = (false, eval e X.env) :: starEach [] X.env := by rfl) (hpl : (backTo pos (starEach [] X.env)).any (·.1) = false := by rfl) : DE X c E (.Call (.Name "sorted" p) [e] [] pos) (opN dSortedS ps) :=
  de_opN (gs_sorted hK) ha fun h => pe_callB cr_sortedI hg hm (by rfl) h (by decide) (by decide) hs hpl
theorem b_max (hK : X.K = c.K) (hc : X.calm = true) (hm : X.mg "max" = none) (ha : DPs X c E [e] ps) (hg : Gl X "max" := by rfl) (hs : starEach [e] X.env = (false, eval e X.env) :: starEach [] X.env := by rfl) (hpl : (backTo pos (starEach [] X.env)).any (·.1) = false := by rfl) : DE X c E (.Call (.Name "max" p) [e] [] pos) (opN dMax ps) :=
  de_opN (gs_max hK) ha fun h => pe_callB (cr_max hc) hg hm (by rfl) h (by decide) (by decide) hs hpl
theorem b_min (hK : X.K = c.K) (hc : X.calm = true) (hm : X.mg "min" = none) (ha : DPs X c E [e] ps) (hg : Gl X "min" := by rfl) (hs : starEach [e] X.env = (false, eval e X.env) :: starEach [] X.env := by rfl) (hpl : (backTo pos (starEach [] X.env)).any (·.1) = false := by rfl) : DE X c E (.Call (.Name "min" p) [e] [] pos) (opN dMin ps) :=
  de_opN (gs_min hK) ha fun h => pe_callB (cr_min hc) hg hm (by rfl) h (by decide) (by decide) hs hpl
end
end U
namespace U
set_option autoImplicit false
open PySem PySem.Spec PyProof.Rows L2

/-! ### l.index(x), l a list -/
def firstD (x : D) : List D → Option Nat
  | [] => none
  | y :: ys => if eqD y x then some 0 else (firstD x ys).map (· + 1)
theorem firstD_some {x : D} : ∀ {ds : List D} {j : Nat}, firstD x ds = some j → ∃ z, ds[j]? = some z ∧ eqD z x = true ∧ ∀ (m : Nat) (z' : D), m < j → ds[m]? = some z' → eqD z' x = false
  | [], j, h => by cases h
  | y :: ys, j, h => by
    unfold firstD at h
    split at h
    · rename_i e
      cases h
      exact ⟨y, rfl, e, fun m z' hm => by omega⟩
    · rename_i e
      cases q : firstD x ys with
      | none => rw [q] at h; cases h
      | some i =>
        rw [q] at h
        cases h
        obtain ⟨z, h1, h2, h3⟩ := firstD_some q
        refine ⟨z, h1, h2, fun m z' hm hz => ?_⟩
        cases m with
        | zero =>
          cases hz
          exact Bool.eq_false_iff.mpr e
        | succ m => exact h3 m z' (Nat.lt_of_succ_lt_succ hm) hz
def dIndex (x y : D) : Option (Bool × D) := match x with
  | .lst ds => if D.good (.lst ds) && y.good then (firstD y ds).map fun j => (false, .int j) else none
  | _ => none
/-- the receiver is looked at first, then the argument -/
def fIndex (p q : Pk) : EF := fun ρ => (p.ev ρ).bind fun a => match p.get a.1 a.2 with
  | some (.lst _) => (q.ev a.2).bind fun b => get2 dIndex (p.get a.1 b.2) (q.get b.1 b.2) b.2
  | _ => .bad
section
variable {X : Cx} {c : Cc} {E : XK} {o e : Expr} {p q : Pk} {apos cpos : Pos}
theorem gs_index (hK : X.K = c.K) {A : Addr → Prop} {H : Hp} {x y : V} {d1 d2 : D} {fr : Bool} {d : D} {Q : VK} (h1 : RepT c A H x d1) (h2 : RepT c A H y d2) (e : dIndex d1 d2 = some (fr, d)) (k : ∀ v H', New c A H H' fr v d → Q v H') : rIndexD X.K x [y] H Q := by
  unfold dIndex at e
  split at e
  case h_2 => cases e
  rename_i ds
  split at e
  case isFalse => cases e
  rename_i hg
  have hg := Bool.and_eq_true_iff.mp hg
  cases q : firstD d2 ds with
  | none => rw [q] at e; cases e
  | some j =>
    rw [q] at e
    cases e
    obtain ⟨z, z1, z2, z3⟩ := firstD_some q
    have hd1 := RepT.dp hg.1 h1
    have hd2 := RepT.dp hg.2 h2
    rw [← hK] at hd1 hd2
    obtain ⟨a, xs, rfl, _, _⟩ := repT_lst h1
    have hall : ds.all (D.okN 59) = true := hg.1
    have okz : ∀ (m : Nat) (z : D), ds[m]? = some z → D.okN 59 z = true := fun m z hz => List.all_eq_true.mp hall z (List.mem_of_getElem? hz)
    have hpy : ∀ (m : Nat) (z : D), ds[m]? = some z → PyData.eqv z.py d2.py = eqD z d2 := fun m z hz => eqD_py z d2 59 60 (okz m z hz) hg.2
    refine ⟨a, y, d2.py, D.pyL ds, j, z.py, rfl, rfl, hd1, hd2, good_shaped hg.1, good_shaped hg.2, by rw [pyL_map, List.getElem?_map, z1]; rfl, by rw [hpy j z z1]; exact z2, fun m z' hm hz => ?_, k _ H (new_self (.int _))⟩
    rw [pyL_map, List.getElem?_map] at hz
    cases q2 : ds[m]? with
    | none => rw [q2] at hz; cases hz
    | some w =>
      rw [q2] at hz
      cases hz
      rw [hpy m w q2]
      exact z3 m w hm q2
theorem b_index (hu : X.A.units + 65 < cLine) (hK : X.K = c.K) (ho : DP X c E o p) (he : DP X c E e q) (hbase : attributeBase o "index" X.env (eval o X.env) = eval o X.env := by rfl)
    (hfew : ((backTo cpos (starEach [e] X.env)).all (fun x => !x.1) && (backToKw cpos (keywordEach [] X.env)).all (fun x => x.1.isSome)
      && decide (([e] : List Expr).length + ([] : List Keyword).length + (if ([] : List Keyword).isEmpty then 0 else 1) < 30)) = true := by rfl)
    (hline : (apos.endLine == cpos.line) = true := by rfl) (hs : starEach [e] X.env = (false, eval e X.env) :: starEach [] X.env := by rfl) (hplain : (backTo cpos (starEach [] X.env)).any (·.1) = false := by rfl) :
    DE X c E (.Call (.Attribute o "index" apos) [e] [] cpos) (fIndex p q) := by
  refine ⟨pe_imp (pe_bm PySem.F.plainAttrs_list PySem.F.slot_list_index PySem.F.type_list_index (mt_indexD hu) ho.pe (pa_cons he.pe pa_nil hs) hbase hfew hline hs hplain) fun σ H Q ⟨ρ, Z, B, r0, h⟩ => ?_⟩
  refine ⟨ρ, Z, B, r0, O.sat_then (o := p.ev ρ) h (fun a ha v1 H1 r1 pv1 => ?_) fun _ _ _ h => h⟩
  cases e1 : p.get a.1 a.2 with
  | none => rw [e1] at ha; exact ha.elim
  | some d1 =>
    rw [e1] at ha
    cases d1 with
    | lst ds =>
      have rt := pv1.fin r1 e1
      obtain ⟨l, xs, rfl, l1, l2⟩ := repT_lst rt
      refine ⟨.inl ⟨rfl, xs, .inl (.inl l1)⟩, a.2, Z, hull σ a.2 H1, r1.strong, O.sat_then (o := q.ev a.2) ha (fun b hb v2 H2 r2 pv2 => ?_) fun _ _ _ h => XW.weak r1.hull_le h⟩
      obtain ⟨x, y, fr, d, g1, g2, g3, fin⟩ := get2_ok hb
      refine gs_index hK ((pv1.keep r1 r2).fin r2 g1) (pv2.fin r2 g2) g3 fun v H' n => ?_
      obtain ⟨k1, k2⟩ := (r2.weak r1.hull_le).new n
      exact fin v H' k1 k2
    | _ => exact ha.elim
end
end U
namespace U
set_option autoImplicit false
open PySem PySem.Spec PyProof.Rows L2

/-! ### set(xs), xs a list of ints -/
section
variable {P : Program} {w : World} {A : Around} {E : Value → Shared → Prop} {s : Shared}
set_option maxHeartbeats 8000000 in
theorem call_set_lisR {l : Addr} {items : Array Value} (ns : List Int) {Q : Value → Shared → Prop} (hh : A.handled = none) (hl : s.heap.IsList l items) (hit : IntsAre items.toList ns) (hb : ns.length + 1 < scanBound)
    (h : ∀ (h' : Heap) (tk c : Nat), SetR w h' s.heap.objs.size (fun j => decide (j ∈ ns)) c → c ≤ ns.length → (∀ b o, s.heap.get? b = some o → h'.get? b = some o) → Q (.ref s.heap.objs.size) { s with heap := h', toks := tk }) :
    wpAny (model P w) A (call (.type "set") [.ref l]) Q E s := by
  have hisz : items.size = ns.length := by
    have q := IntsAre.length hit
    rw [Array.length_toList] at q
    exact q
  obtain ⟨c, tl, hmro⟩ := F.called_set.mro
  have hmade := F.called_set.made
  have hsub := F.called_set.sub
  refine wpAny_call (codeAny_of_tree ?_)
  show wpAny _ _ (callAny (.type "set") _) _ _ _
  refine wpAny_pure ⟨Code.quiet_builtin _ (by decide +kernel), codeAny_builtin F.entry_type_call ?_⟩
  rw [Around.under_plain (weight_type_call_type "set" [.ref l] []) rfl]
  have h1 := F.called_set.notType
  have h2 := F.called_set.canCreate
  have hct := F.typeCall_set_1 (.ref l)
  repeat (any_goals (first | assumption | wp_step))

  refine codeAny_mono (code_set_led1 (.ref l) (E := E) (Q₁ := fun obj s₁ => obj = .ref s.heap.objs.size ∧ s₁ = { s with heap := s.heap.push { cls := .type "set", dict := none, data := .set #[] 0 (.fresh 0 0 (!w.params.followText "set-order")) } }) ⟨rfl, rfl⟩) fun r s₁ hr => ?_
  cases r with
  | error e => exact hr
  | ok fl =>
    cases fl with
    | ret obj =>
      obtain ⟨rfl, rfl⟩ := hr
      have hS : (s.heap.push { cls := .type "set", dict := none, data := .set #[] 0 (.fresh 0 0 (!w.params.followText "set-order")) }).get? s.heap.objs.size = some { cls := .type "set", dict := none, data := .set #[] 0 (.fresh 0 0 (!w.params.followText "set-order")) } := Heap.get?_push_size _ rfl
      have hT : Shared.TypeIs { s with heap := s.heap.push { cls := .type "set", dict := none, data := .set #[] 0 (.fresh 0 0 (!w.params.followText "set-order")) } } (.ref s.heap.objs.size) "set" := ⟨_, hS, rfl⟩
      have hli := F.called_set.init.lookup
      have hbi := F.called_set.init.bind (.ref s.heap.objs.size)
      repeat (any_goals (first | assumption | wp_step))

      refine codeAny_mono (codeAny_call_builtin (R := wants (fun r s₂ => r = .none ∧ ∃ h' tk c, s₂ = { s with heap := h', toks := tk } ∧ SetR w h' s.heap.objs.size (fun j => decide (j ∈ ns)) c ∧ c ≤ ns.length ∧
          (∀ b o, s.heap.get? b = some o → h'.get? b = some o)) E) F.called_set.init.plain F.entry_set_init (check_set_init_1 hT ?_)) fun r₂ s₂ hr₂ => ?_
      · obtain ⟨ol, hol, hcl, nl, hdl⟩ := hl
        obtain ⟨ocls, odict, odata, oslots⟩ := ol
        simp only at hcl hdl
        subst hcl; subst hdl
        have hol' : (s.heap.push { cls := .type "set", dict := none, data := .set #[] 0 (.fresh 0 0 (!w.params.followText "set-order")) }).get? l = some { cls := .type "list", dict := odict, data := .seq items nl, slots := oslots } := Heap.get?_push_of_some _ hol
        have hsls := F.sub_list_set
        have hslf := F.sub_list_frozenset
        have hne : (Value.type "list" == Value.type "dict") = false := by decide
        have hl1 : (s.heap.push { cls := .type "set", dict := none, data := .set #[] 0 (.fresh 0 0 (!w.params.followText "set-order")) }).IsList l items := ⟨_, hol', rfl, nl, rfl⟩
        unfold Builtin.«set.__init__» noKeywords Builtin.Frozenset.updateFrom
        generalize hPI : pyIter = PI
        wp_walk
        subst hPI

        refine wpAny_pyIter_list hl1 ?_
        refine wpAny_bind (wpAny_runValue ?_)
        have hlS : l < s.heap.objs.size := Heap.lt_size hol
        have hh3 : A.in1.in1.in1.handled = none := by simp [hh]
        have hz1 : (s.heap.push { cls := .type "set", dict := none, data := .set #[] 0 (.fresh 0 0 (!w.params.followText "set-order")) }).objs.size = s.heap.objs.size + 1 := Heap.size_push ..
        have hneI : l ≠ (s.heap.push { cls := .type "set", dict := none, data := .set #[] 0 (.fresh 0 0 (!w.params.followText "set-order")) }).objs.size := by
          rw [Heap.size_push]; exact Nat.ne_of_lt (Nat.lt_succ_of_lt hlS)
        have hSf : s.heap.objs.size ∉ [(s.heap.push { cls := .type "set", dict := none, data := .set #[] 0 (.fresh 0 0 (!w.params.followText "set-order")) }).objs.size, l] := by
          rw [Heap.size_push]; simp only [List.mem_cons, List.mem_singleton, List.not_mem_nil, or_false, not_or]
          exact ⟨Nat.ne_of_lt (Nat.lt_succ_self _), Nat.ne_of_gt hlS⟩
        have hval : ∀ (i : Nat) (v : Value), items[i]? = some v → ∃ k t, ns[i]? = some k ∧ v = .int k t := fun i v hv => by
          have hi : i < ns.length := by rw [← hisz]; exact (Array.getElem?_eq_some_iff.mp hv).1
          obtain ⟨t, e⟩ := PyProof.Rows.IntsAre.int_at hit i v (by rw [Array.getElem?_toList]; exact hv)
          refine ⟨ns[i], t, List.getElem?_eq_getElem hi, ?_⟩
          rw [e, List.getD_eq_getElem?_getD, List.getElem?_eq_getElem hi] <;> rfl
        refine set_update_ints ((Walks.list hh3 _ l hneI items).toS) s.heap.objs.size
          hSf ns hisz hb hval (items.size - 0) 0 _ (by omega) (Nat.zero_le _)
          ⟨⟨_, Heap.get?_push_size _ rfl, rfl, rfl⟩, (hl1.push _)⟩ ?hS0 ?hR
        case hS0 =>
          have hget : ((s.heap.push { cls := .type "set", dict := none, data := .set #[] 0 (.fresh 0 0 (!w.params.followText "set-order")) }).push { cls := .type "list_iterator", data := .fields #[.ref l, .int 0 0] }).get? s.heap.objs.size
              = some { cls := .type "set", dict := none, data := .set #[] 0 (.fresh 0 0 (!w.params.followText "set-order")) } := Heap.get?_push_of_some _ hS
          exact ⟨0, Nat.le_refl 0, setR_new_at hget⟩
        case hR =>
          intro s' c' hm hc' hS'
          obtain ⟨h', g2, d', tk', os'⟩ := s'
          have eg : g2 = s.gens := hm.gens
          have ed : d' = s.drawn := hm.drawn
          have eo : os' = s.os := hm.os
          subst eg; subst ed; subst eo
          show wpAny _ _ _ _ _ _
          refine wpAny_pure ?_
          show wpAny _ _ (ret Value.none) _ _ _
          rw [hisz] at hc'
          refine wpAny_pure ⟨rfl, h', tk', c', rfl, hS', hc', fun b o e => ?_⟩
          have hb0 : b < s.heap.objs.size := Heap.lt_size e
          have hb1 : b ≠ s.heap.objs.size := Nat.ne_of_lt hb0
          have hb2 : b ≠ (s.heap.push { cls := .type "set", dict := none, data := .set #[] 0 (.fresh 0 0 (!w.params.followText "set-order")) }).objs.size := by
            rw [Heap.size_push]; exact Nat.ne_of_lt (Nat.lt_succ_of_lt hb0)
          exact hm.heap b o (by simp only [List.mem_cons, List.mem_singleton, List.not_mem_nil, or_false, not_or]; exact ⟨hb1, hb2⟩) (Heap.get?_push_of_some _ (Heap.get?_push_of_some _ e))

      · cases r₂ with
        | error e => exact hr₂
        | ok fl₂ =>
          cases fl₂ with
          | ret r =>
            obtain ⟨rfl, h', tk, c', rfl, hS', hc', hk'⟩ := hr₂
            repeat (any_goals (first | assumption | wp_step))
            exact h _ _ _ hS' hc' hk'
          | _ => exact hr₂.elim
    | _ => exact hr.elim

end
/-- l's items, each once -/
def nubI : List Int → List Int
  | [] => []
  | x :: xs => if x ∈ xs then nubI xs else x :: nubI xs
theorem nubI_mem : ∀ (xs : List Int) (y : Int), y ∈ nubI xs ↔ y ∈ xs
  | [], y => Iff.rfl
  | x :: xs, y => by
    unfold nubI
    split
    · rename_i h
      rw [nubI_mem xs y, List.mem_cons]
      exact ⟨.inr, fun z => z.elim (fun e => by rw [e]; exact h) id⟩
    · rw [List.mem_cons, nubI_mem xs y, List.mem_cons]
theorem nubI_nodup : ∀ xs : List Int, (nubI xs).Nodup
  | [] => List.nodup_nil
  | x :: xs => by
    unfold nubI
    split
    · exact nubI_nodup xs
    · rename_i h
      exact List.nodup_cons.mpr ⟨fun z => h ((nubI_mem xs x).mp z), nubI_nodup xs⟩
theorem perm_mem {l l' : List Int} (h : l.Nodup) (h' : l'.Nodup) (e : ∀ a, a ∈ l ↔ a ∈ l') : l.Perm l' := (List.perm_ext_iff_of_nodup h h').mpr e
def rSetLi (K : PySem.W.Frag) (w : World) : List V → Hp → VK → Prop := fun vs H Q => ∃ (a : Addr) (ns : List Int), vs = [V.ref a] ∧ (SqL K H a (ns.map V.int) ∨ SqT K H a (ns.map V.int)) ∧ ns.length ≤ 1000 ∧ ∀ p, H p = none → Q (.ref p) (upd H p (SetO w p (fun j => decide (j ∈ ns)) (nubI ns).length))
theorem cr_setLi {X : Cx} (hc : X.calm = true) : CallR X (.type "set") (rSetLi X.K X.w) := by
  intro pins s σ H vs us Q I r h
  obtain ⟨a, ns, rfl, hs, hl, q⟩ := h
  rw [Vals.ref1 r]
  have fin : ∀ (h' : Heap) (tk n : Nat), SetR X.w h' s.heap.objs.size (fun j => decide (j ∈ ns)) n → n ≤ ns.length → (∀ b o, s.heap.get? b = some o → h'.get? b = some o) → EP X pins σ Q (.ref s.heap.objs.size) { s with heap := h', toks := tk } := fun h' tk n R _ hk => by
    have hn : n = (nubI ns).length := by
      obtain ⟨o, es, ep, t, _, _, _, _, nd, hm, _, _, he, _⟩ := R
      have p : (es.toList.map keyOf).Perm (nubI ns) := perm_mem nd (nubI_nodup ns) fun k => by rw [← hm k, nubI_mem]; exact decide_eq_true_iff
      have := p.length_eq
      rw [List.length_map, Array.length_toList] at this
      omega
    rw [hn] at R
    have hfree : H s.heap.objs.size = none := I.hok.fresh (Nat.le_refl _)
    exact ⟨.ref s.heap.objs.size, _, I.laid (t' := tk) hk (Nat.le_refl _) (setO_new R), rfl, q _ hfree⟩
  rcases hs with hs | hs
  · obtain ⟨its, rv, pl, hz⟩ := I.list hs
    exact call_set_lisR ns (I.ok.hd hc) pl.isList (by simpa using RZ.intsAre_vals rv) (by unfold scanBound; omega) fin
  · obtain ⟨its, rv, pl, hz⟩ := I.tuple hs
    exact call_set_tupI ns (I.ok.hd hc) (show s.heap.IsTuple a its.toArray from pl) (by simpa using RZ.intsAre_vals rv) (by unfold scanBound; omega) fin
def dSortSet : List D → Option (Bool × D)
  | [.lst ds] => (intsD ds).bind fun ns => if ns.length ≤ 1000 ∧ (nubI ns).length < 64 then some (true, .lst ((sortI (nubI ns)).map .int)) else none
  | [.tup ds] => (intsD ds).bind fun ns => if ns.length ≤ 1000 ∧ (nubI ns).length < 64 then some (true, .lst ((sortI (nubI ns)).map .int)) else none
  | _ => none
section
variable {X : Cx} {c : Cc} {E : XK} {e : Expr} {ps : List Pk} {p pos p1 pos1 : Pos}
theorem gs_sortSet (hK : X.K = c.K) : GSN c dSortSet (fun vs H Q => rSetLi X.K X.w vs H fun v H1 => rSortedSet X.w [v] H1 Q) := by
  intro A H vs ds fr d Q h e k
  have key : ∀ (ds : List D), ((intsD ds).bind fun ns => if ns.length ≤ 1000 ∧ (nubI ns).length < 64 then some (true, D.lst ((sortI (nubI ns)).map .int)) else none) = some (fr, d) →
      (∀ ns, intsD ds = some ns → ∃ a, vs = [.ref a] ∧ (SqL X.K H a (ns.map V.int) ∨ SqT X.K H a (ns.map V.int))) → rSetLi X.K X.w vs H fun v H1 => rSortedSet X.w [v] H1 Q := by
    intro ds e ho
    cases q : intsD ds with
    | none => rw [q] at e; cases e
    | some ns =>
      rw [q] at e
      dsimp only [Option.bind] at e
      split at e
      case isFalse => cases e
      rename_i hb
      cases e
      obtain ⟨a, rfl, h1⟩ := ho ns q
      refine ⟨a, ns, rfl, h1, hb.1, fun p np => ?_⟩
      refine ⟨p, _, _, rfl, upd_same, hb.2, fun ns' p' hp hm hl np' => ?_⟩
      have hne : p' ≠ p := fun z => by rw [z, upd_same] at np'; cases np'
      have np2 : H p' = none := by rw [upd_ne hne] at np'; exact np'
      have hnd : ns'.Nodup := hp.imp fun {a b} h z => by omega
      have : ns' = sortI (nubI ns) := sorted_one ((perm_mem hnd (nubI_nodup ns) fun k => by rw [hm k, nubI_mem]; exact decide_eq_true_iff).trans (sortI_perm _).symm) (hp.imp fun {a b} h => by omega) (sortI_sorted _)
      subst this
      refine k _ _ ⟨fun b x hx => ?_, p', _, _, rfl, np2, .lst upd_same, repL_ints _⟩
      rw [upd_ne (ne_of_none hx np2), upd_ne (ne_of_none hx np)]
      exact hx
  unfold dSortSet at e
  split at e
  case h_3 => cases e
  · exact key _ e fun ns q => by
      obtain ⟨a, h1, h2⟩ := one_ints hK h q
      exact ⟨a, h1, .inl h2⟩
  · exact key _ e fun ns q => by
      obtain ⟨v, rfl, hv⟩ := repTs1 h
      obtain ⟨a, xs, rfl, h1, h2⟩ := repT_tup hv
      rw [intsD_map q] at h2
      rw [repL_intsV h2, ← hK] at h1
      exact ⟨a, rfl, .inr h1⟩
theorem b_sortSet (hK : X.K = c.K) (hc : X.calm = true) (hm : X.mg "sorted" = none) (hm2 : X.mg "set" = none) (ha : DPs X c E [e] ps) (hg : Gl X "sorted" := by rfl) (hg2 : Gl X "set" := by rfl)
    (hs : starEach [e] X.env = (false, eval e X.env) :: starEach [] X.env := by rfl) (hpl1 : (backTo pos1 (starEach [] X.env)).any (·.1) = false := by rfl)
    (hs2 : starEach [.Call (.Name "set" p1) [e] [] pos1] X.env = (false, eval (.Call (.Name "set" p1) [e] [] pos1) X.env) :: starEach [] X.env := by rfl) (hpl : (backTo pos (starEach [] X.env)).any (·.1) = false := by rfl) :
    DE X c E (.Call (.Name "sorted" p) [.Call (.Name "set" p1) [e] [] pos1] [] pos) (opN dSortSet ps) := by
  refine de_opN (gs_sortSet hK) ha fun h => pe_imp (pe_callB (cr_sortedSet hc) hg hm (by rfl) (pa_cons (pe_callTy (cr_setLi hc) hg2 hm2 (by rfl) h (by decide) (by decide) hs hpl1) pa_nil hs2) (by decide) (by decide) hs2 hpl) fun σ H Q q => q
end
end U
namespace U
set_option autoImplicit false
open PySem PySem.Spec PyProof.Rows L2

/-! ### a, b = x, y through a tuple (the names may be cells) -/
section
variable {X : Cx} {c : Cc} {pr : Bool} {E : XK} {pos : Pos}
theorem sPar_satS {r : List (Nat × EF)} {T : Ends} {σ : L2.St} {H : Hp} (hp : pr = true → ∀ p ∈ r, p.1 ≠ 0) (q : liftS c pr E (sPar r) T σ H) : parT c E r σ H fun vs H2 => vs.length = r.length ∧ ∀ H3, Same H2 H3 → T.nx (storeP σ r vs) H3 := by
  obtain ⟨ρ, Z, B, r0, q⟩ := q
  have h := par_ok r (P := fun σ' H2 => (pr = true → σ'[0]? = σ[0]?) → ∀ H3, Same H2 H3 → T.nx σ' H3) r0 (O.sat_then (o := parF r ρ) q (fun ρ' h σ' H' R' p H3 s => h σ' H3 p (R'.same s)) fun _ _ _ h => h.xw)
  have mono : ∀ (r : List (Nat × EF)) (σ : L2.St) (H : Hp) (Q Q' : List V → Hp → Prop), (∀ vs H, Q vs H → Q' vs H) → parT c E r σ H Q → parT c E r σ H Q' := by
    intro r
    induction r with
    | nil => intro σ H Q Q' hq h; exact hq _ _ h
    | cons a r ih =>
      intro σ H Q Q' hq h
      obtain ⟨ρ, Z, B, r0, h⟩ := h
      exact ⟨ρ, Z, B, r0, O.sat_mono h (fun x hx v H' R' V' => ih σ H' _ _ (fun vs H q => hq _ _ q) (hx v H' R' V')) fun _ _ _ h => h⟩
  exact mono r σ H _ _ (fun vs H2 q => ⟨q.1, q.2 fun p => storeP_zero (hp p)⟩) h
theorem ds_par2c {i j : Nat} {x y : Str} {a b : Expr} {f g : EF} {px py pt : Pos} {kt k2 : Nat} {pt2 : Pos} (hK : X.K = c.K) (hc : X.calm = true) (hN : X.N.Nodup) (hi : X.N[i]? = some x) (hj : X.N[j]? = some y) (hij : i ≠ j)
    (hx : Loc X.env.scope x) (hy : Loc X.env.scope y) (ha : DE X c E a f) (hb : DE X c E b g) (hp : pr = true → i ≠ 0 ∧ j ≠ 0)
    (hs : swapsWithSole [.Tuple [.Name x px, .Name y py] kt pt] (.Tuple [a, b] k2 pt2) pos.line X.env = pure false := by rfl)
    (hw : swappedStores [.Tuple [.Name x px, .Name y py] kt pt] (.Tuple [a, b] k2 pt2) X.env = pure none := by rfl)
    (h1 : (assignEach [.Tuple [.Name x px, .Name y py] kt pt] X.env).map (·.2) = [assign (.Tuple [.Name x px, .Name y py] kt pt) X.env] := by rfl)
    (hs1 : starEach [a, b] X.env = (false, eval a X.env) :: starEach [b] X.env := by rfl) (hs2 : starEach [b] X.env = (false, eval b X.env) :: starEach [] X.env := by rfl)
    (hfx : X.fn x = true ∨ X.env.scope.names.lookup x = some .local := by first | exact .inl rfl | exact .inr rfl | assumption) (hfy : X.fn y = true ∨ X.env.scope.names.lookup y = some .local := by first | exact .inl rfl | exact .inr rfl | assumption)
    (g1 : (assignEach [.Name x px, .Name y py] X.env).map (·.2) = assign (.Name x px) X.env :: (assignEach [.Name y py] X.env).map (·.2) := by rfl) (g2 : (assignEach [.Name y py] X.env).map (·.2) = assign (.Name y py) X.env :: (assignEach [] X.env).map (·.2) := by rfl)
    (hn : (assignEach [.Name x px, .Name y py] X.env).length = 2 := by rfl) (hst : (assignEach [.Name x px, .Name y py] X.env).findIdx? (·.1) = none := by rfl) :
    DS X c pr E (.Assign [.Tuple [.Name x px, .Name y py] kt pt] (.Tuple [a, b] k2 pt2) pos) (sPar [(i, f), (j, g)]) := by
  refine ⟨ps_imp (ps_asg (pe_tup (pa_cons ha.pe (pa_cons hb.pe pa_nil hs2) hs1)) (pg_tup hc (pgs_cons (pg_name hN hi hx hfx) (pgs_cons (pg_name hN hj hy hfy) pgs_nil g2) g1) hn hst) hs hw h1) fun T σ H q => ?_⟩
  have h := sPar_satS (fun p => fun p' hp' => by
    rcases List.mem_cons.mp hp' with e | hp'
    · rw [e]; exact (hp p).1
    · rw [List.mem_singleton.mp hp']; exact (hp p).2) q
  obtain ⟨ρ, Z, B, r0, h⟩ := h
  refine ⟨ρ, Z, B, r0, O.sat_mono h (fun x hx v H1 R1 V1 => ?_) fun _ _ _ h => h⟩
  obtain ⟨ρ1, Z1, B1, r1, h1⟩ := hx v H1 R1 V1
  refine ⟨ρ1, Z1, B1, r1, O.sat_mono h1 (fun x hx w H2 R2 V2 => ?_) fun _ _ _ h => h⟩
  have h3 := (hx w H2 R2 V2).2
  refine ⟨by rw [sizeLine_eq]; show 2 ≤ _; decide, fun p np => ?_⟩
  refine ⟨p, [v, w], rfl, .inl (.inl upd_same), rfl, v, [w], rfl, w, [], rfl, rfl, ?_⟩
  have h4 := h3 (upd H2 p (.tup [v, w])) (same_new np)
  have e : storeP σ [(i, f), (j, g)] [v, w] = (σ.set i (some v)).set j (some w) := List.set_comm _ _ hij.symm
  rw [e] at h4
  exact h4
end
end U
namespace U
set_option autoImplicit false
open PySem PySem.Spec PyProof.Rows L2

/-! ### dicts: keys -/
abbrev lfV : L2.Key → V := kV
def knk : L2.Key → NestedKey
  | .inl i => .num i
  | .inr x => .text x
theorem leaf_of {c : Cc} {A : Addr → Prop} {H : Hp} {v : V} {d : D} {l : L2.Key} (r : Rep c A H v d) (e : d.lf = some l) : v = lfV l := by
  cases d <;> first | (cases e; done) | (cases e; cases r; rfl)
theorem leaf_is {P : Program} {w : World} {l : L2.Key} {u : Value} (r : RelV (lfV l) u) : (mixKind P w).is l u = true := kV_is r
theorem lf_nk {d : D} {l : L2.Key} (e : d.lf = some l) : d.nk = some (knk l) := by
  cases d <;> first | (cases e; done) | (cases e; rfl)
section
variable {X : Cx} {pins : List (Addr × Obj)} {σ : St} {H : Hp} {s : Shared} {c : Cc} {A : Addr → Prop}
mutual
theorem nested_of (I : Inv X pins σ H s) (hK : X.K = c.K) : ∀ (d : D) (v : V) (u : Value) (k : NestedKey), Rep c A H v d → RelV v u → d.nk = some k → NestedIs s.heap k u
  | .non, _, u, _, h, r, e => by cases h; cases e; cases (show u = Value.none from r); exact .none
  | .bl _, _, _, _, _, _, e => by cases e
  | .int i, _, u, _, h, r, e => by cases h; cases e; obtain ⟨t, rfl⟩ := (show ∃ t, u = Value.int i t from r); exact .int i t
  | .str x, _, u, _, h, r, e => by cases h; cases e; obtain ⟨t, rfl⟩ := (show ∃ t, u = Value.str x t from r); exact .text x t
  | .tup ds, _, u, k, h, r, e => by
    have e' : (D.nkL ds).map NestedKey.tup = some k := e
    cases h with
    | @tup a xs _ h1 h2 =>
      cases (show u = Value.ref a from r)
      cases q : D.nkL ds with
      | none => rw [q] at e'; cases e'
      | some ks =>
        rw [q] at e'
        cases e'
        obtain ⟨its, rv, p, _⟩ := I.tuple (a := a) (xs := xs) (by rw [hK]; exact h1)
        obtain ⟨o, ho, hc, n, hd⟩ := (show s.heap.IsTuple a its.toArray from p)
        exact .tup ho hc hd (nested_ofL I hK ds xs its ks h2 rv q)
  | .lst _, _, _, _, _, _, e => by cases e
  | .dic _ _, _, _, _, _, _, e => by cases e
  | .fn _, _, _, _, _, _, e => by cases e
  | .exc _ _, _, _, _, _, _, e => by cases e
  | .scr _, _, _, _, _, _, e => by cases e
theorem nested_ofL (I : Inv X pins σ H s) (hK : X.K = c.K) : ∀ (ds : List D) (vs : List V) (us : List Value) (ks : List NestedKey), RepL c A H vs ds → Vals vs us → D.nkL ds = some ks → NestedAll s.heap ks us
  | [], _, _, _, h, r, e => by cases h; cases r; cases e; exact .nil
  | d :: ds, _, _, ks, h, r, e => by
    cases h with
    | cons h1 h2 =>
      cases r with
      | cons r1 r2 =>
        have e' : (match d.nk, D.nkL ds with | some k, some ks => some (k :: ks) | _, _ => none) = some ks := e
        cases q1 : d.nk with
        | none => rw [q1] at e'; cases e'
        | some k =>
          cases q2 : D.nkL ds with
          | none => rw [q1, q2] at e'; cases e'
          | some ks2 =>
            rw [q1, q2] at e'
            cases e'
            exact .cons (nested_of I hK d _ _ k h1 r1 q1) (nested_ofL I hK ds _ _ ks2 h2 r2 q2)
end
end

/-! ### dicts, as a heap holds them -/
/-- keys and values at a -/
def DcK (X : Cx) (H : Hp) (a : Addr) (m : List (NestedKey × V)) : Prop := ∃ (kvs : List (L2.Key × V)) (ob : Obj), H a = some (DkO X.prog X.w a kvs ob) ∧ m = kvs.map fun p => ((knk p.1), p.2)
def NKs (X : Cx) (H : Hp) (k : NestedKey) (b : Addr) : Prop := ∀ (pins : List (Addr × Obj)) (σ : St) (s : Shared), Inv X pins σ H s → NestedIs s.heap k (.ref b)
def DcT' (X : Cx) (H : Hp) (a : Addr) (kvs : List (NestedKey × Addr × V)) : Prop := ((∃ ob, H a = some (DtO X.prog X.w a kvs ob)) ∧ ∀ p ∈ kvs, NKs X H p.1 p.2.1) ∨ (kvs = [] ∧ ∃ ob, H a = some (DkO X.prog X.w a [] ob))
def DcT (X : Cx) (H : Hp) (a : Addr) (m : List (NestedKey × V)) : Prop := ∃ kvs, DcT' X H a kvs ∧ m = kvs.map fun p => (p.1, p.2.2)
def KyT (X : Cx) (H : Hp) (y : V) (k : NestedKey) : Prop := ∃ b, y = .ref b ∧ k.depth ≤ 8 ∧ NKs X H k b
/-- what a look-up gives -/
def DLk (X : Cx) (H : Hp) (a : Addr) (y : V) (r : Option V) : Prop := ∃ m k, ((DcK X H a m ∧ ∃ l : L2.Key, y = lfV l ∧ k = (knk l)) ∨ (DcT X H a m ∧ KyT X H y k)) ∧ r = valV m k
def IsDic (X : Cx) (H : Hp) (a : Addr) (n : Nat) : Prop := (∃ m, DcK X H a m ∧ m.length = n) ∨ ∃ m, DcT X H a m ∧ m.length = n
section
variable {X : Cx} {pins : List (Addr × Obj)} {σ : St} {H : Hp} {s : Shared} {a : Addr}
theorem dk_at {kvs : List (L2.Key × V)} {ob : Obj} (I : Inv X pins σ H s) (h : H a = some (DkO X.prog X.w a kvs ob)) : kvs.length ≤ sizeLine ∧ (a == sysModules) = false ∧ ∃ vs, KV kvs vs ∧ s.heap.DictOf (mixKind X.prog X.w) a vs := (I.hok a _ h).1.2
theorem kw_mem {kvs : List (NestedKey × Addr × V)} {xs : List (NestedKey × Addr × Value)} (r : KW kvs xs) : ∀ x ∈ xs, ∃ p ∈ kvs, p.1 = x.1 ∧ p.2.1 = x.2.1 := by
  unfold KW at r
  induction r with
  | nil => exact fun _ h => nomatch h
  | @cons p q ps qs h t ih =>
    intro x hx
    rcases List.mem_cons.mp hx with e | e
    · subst e; exact ⟨p, List.mem_cons_self, h.1, h.2.1⟩
    · obtain ⟨p', h1, h2⟩ := ih x e
      exact ⟨p', List.mem_cons_of_mem _ h1, h2⟩
theorem dt_at {kvs : List (NestedKey × Addr × V)} (I : Inv X pins σ H s) (h : DcT' X H a kvs) : kvs.length ≤ sizeLine ∧ (a == sysModules) = false ∧ (∀ p ∈ kvs, p.1.depth ≤ 8) ∧ ∃ xs, KW kvs xs ∧ s.heap.DictOfH (nestedKind X.prog X.w) a xs := by
  rcases h with ⟨⟨ob, h⟩, hn⟩ | ⟨rfl, ob, h⟩
  · obtain ⟨_, h1, h2, h3, xs, r, o, es, ep, h4, h5, h6, h7, h8⟩ := ((I.hok a _ h).1)
    refine ⟨h1, h2, h3, xs, r, o, es, ep, h4, h5, h6, h7, fun x hx => ?_, h8⟩
    obtain ⟨p, hp, e1, e2⟩ := kw_mem r x hx
    have := hn p hp pins σ s I
    rw [e1, e2] at this
    exact ⟨this, by rw [← e1]; exact h3 p hp⟩
  · obtain ⟨h1, h2, vs, r, o, es, ep, h4, h5, h6, h7, h8, h9⟩ := dk_at I h
    cases r
    refine ⟨h1, h2, (fun _ h => nomatch h), [], .nil, o, es, ep, h4, h5, h6, ?_, (fun _ h => nomatch h), List.nodup_nil⟩
    have := h8.length
    exact List.eq_nil_of_length_eq_zero this
theorem kw_val {kvs : List (NestedKey × Addr × V)} {xs : List (NestedKey × Addr × Value)} (r : KW kvs xs) (k : NestedKey) : RelO (valV (kvs.map fun p => (p.1, p.2.2)) k) ((atKey xs k).map (·.2)) := by
  unfold KW at r
  induction r with
  | nil => exact True.intro
  | @cons p q ps qs h t ih =>
    rw [List.map_cons]
    by_cases e : p.1 = k
    · rw [valV_pos (p := (p.1, p.2.2)) e]
      have : atKey (q :: qs) k = some (q.2.1, q.2.2) := by
        unfold atKey
        rw [List.find?_cons, decide_eq_true (show q.1 = k by rw [← h.1]; exact e)]
        rfl
      rw [this]
      exact h.2.2
    · rw [valV_neg (p := (p.1, p.2.2)) e]
      have : atKey (q :: qs) k = atKey qs k := by
        unfold atKey
        rw [List.find?_cons, decide_eq_false (show ¬ q.1 = k by rw [← h.1]; exact e)]
      rw [this]
      exact ih
theorem key_inj' {l m : L2.Key} (e : knk l = knk m) : l = m := by
  cases l <;> cases m <;> cases e <;> rfl
theorem valV_key (kvs : List (L2.Key × V)) (l : L2.Key) : valV (kvs.map fun p => ((knk p.1), p.2)) (knk l) = valV kvs l := by
  induction kvs with
  | nil => rfl
  | cons p r ih =>
    rw [List.map_cons]
    by_cases e : p.1 = l
    · rw [valV_pos (p := ((knk p.1), p.2)) (by rw [e]), valV_pos e]
    · rw [valV_neg (p := ((knk p.1), p.2)) (fun z => e (key_inj' z)), valV_neg e, ih]
theorem room8 {A : Around} (hu : A.units + 64 < cLine) : (nestedKind X.prog X.w).room A.in1 := by
  show A.units + 1 + 8 < cLine
  omega
theorem isDic_at {n : Nat} (I : Inv X pins σ H s) (d : IsDic X H a n) : s.TypeIs (.ref a) "dict" ∧ (∀ b, Value.ref a = .ref b → ∃ ob, s.heap.get? b = some ob ∧ ob.dict = none) ∧ (a == sysModules) = false := by
  rcases d with ⟨m, ⟨kvs, ob, h, _⟩, _⟩ | ⟨m, ⟨kvs, h, _⟩, _⟩
  · obtain ⟨_, hd, vs, _, dd⟩ := dk_at I h
    refine ⟨dd.typeIs, fun b q => ?_, hd⟩
    cases q
    obtain ⟨ob, _, _, h1, h2, _⟩ := dd
    exact ⟨ob, h1, h2.2.1⟩
  · obtain ⟨_, hd, _, xs, _, dd⟩ := dt_at I h
    refine ⟨dd.typeIs, fun b q => ?_, hd⟩
    cases q
    obtain ⟨ob, _, _, h1, h2, _⟩ := dd
    exact ⟨ob, h1, h2.2.1⟩
theorem DLk.isDic {y : V} {r : Option V} (g : DLk X H a y r) : ∃ n, IsDic X H a n := by
  obtain ⟨m, k, h | h, _⟩ := g
  · exact ⟨_, .inl ⟨m, h.1, rfl⟩⟩
  · exact ⟨_, .inr ⟨m, h.1, rfl⟩⟩
end
section
variable {X : Cx} {pins : List (Addr × Obj)} {σ : St} {H : Hp} {s : Shared} {a : Addr} {y v d : V} {u r : Value} {o : Option V} {A : Around} {E : Value → Shared → Prop}
theorem g_getItem {Q : Value → Shared → Prop} (hu : A.units + 64 < cLine) (I : Inv X pins σ H s) (g : DLk X H a y (some v)) (ry : RelV y u) (h : ∀ w' s', Inv X pins σ H s' → RelV v w' → Q w' s') :
    wpAny (model X.prog X.w) A (getItem (.ref a) u) Q E s := by
  obtain ⟨m, k, ⟨⟨kvs, ob, e, rfl⟩, l, ey, rfl⟩ | ⟨⟨kvs, e, rfl⟩, b, ey, hdp, hb⟩, l0⟩ := g
  · subst ey
    rw [valV_key] at l0
    obtain ⟨z, hd, vs, rel, dd⟩ := dk_at I e
    obtain ⟨w', hw, rw'⟩ := RelO.some_of (v := v) (o := valueAt vs l) (by rw [l0]; exact rel.val l)
    exact wpAny_getItem_of (leaf_is ry) dd.mapOf hw (h w' _ (I.tok _) rw')
  · subst ey
    cases (show u = Value.ref b from ry)
    obtain ⟨z, hd, hdk, xs, rel, dd⟩ := dt_at I e
    obtain ⟨w', hw, rw'⟩ := RelO.some_of (v := v) (o := (atKey xs k).map (·.2)) (by rw [l0]; exact kw_val rel k)
    obtain ⟨p, hp, hp2⟩ := Option.map_eq_some_iff.mp hw
    refine wpAny_getItem_heap (room8 hu) ⟨hb pins σ s I, hdp⟩ dd hp ?_
    rw [hp2]
    exact h w' _ (I.tok _) rw'
theorem g_in {Q : Value → Shared → Prop} (hu : A.units + 64 < cLine) (I : Inv X pins σ H s) (g : DLk X H a y o) (ry : RelV y u) (h : ∀ s', Inv X pins σ H s' → Q (.bool o.isSome) s') :
    wpAny (model X.prog X.w) A (compareOp .In u (.ref a)) Q E s := by
  obtain ⟨m, k, ⟨⟨kvs, ob, e, rfl⟩, l, ey, rfl⟩ | ⟨⟨kvs, e, rfl⟩, b, ey, hdp, hb⟩, l0⟩ := g
  · subst ey
    rw [valV_key] at l0
    obtain ⟨z, hd, vs, rel, dd⟩ := dk_at I e
    refine wpAny_in_of (leaf_is ry) hd dd.mapOf ?_
    rw [← (rel.val l).isSome_eq, ← l0]
    exact h _ (I.tok _)
  · subst ey
    cases (show u = Value.ref b from ry)
    obtain ⟨z, hd, hdk, xs, rel, dd⟩ := dt_at I e
    refine wpAny_in_heap (room8 hu) ⟨hb pins σ s I, hdp⟩ hd dd ?_
    have q := (kw_val rel k).isSome_eq
    rw [Option.isSome_map] at q
    rw [← q, ← l0]
    exact h _ (I.tok _)
theorem g_notIn {Q : Value → Shared → Prop} (hu : A.units + 64 < cLine) (I : Inv X pins σ H s) (g : DLk X H a y o) (ry : RelV y u) (h : ∀ s', Inv X pins σ H s' → Q (.bool (!o.isSome)) s') :
    wpAny (model X.prog X.w) A (compareOp .NotIn u (.ref a)) Q E s := by
  obtain ⟨m, k, ⟨⟨kvs, ob, e, rfl⟩, l, ey, rfl⟩ | ⟨⟨kvs, e, rfl⟩, b, ey, hdp, hb⟩, l0⟩ := g
  · subst ey
    rw [valV_key] at l0
    obtain ⟨z, hd, vs, rel, dd⟩ := dk_at I e
    refine wpAny_notIn_of (leaf_is ry) hd dd.mapOf ?_
    rw [← (rel.val l).isSome_eq, ← l0]
    exact h _ (I.tok _)
  · subst ey
    cases (show u = Value.ref b from ry)
    obtain ⟨z, hd, hdk, xs, rel, dd⟩ := dt_at I e
    refine wpAny_notIn_heap (room8 hu) ⟨hb pins σ s I, hdp⟩ hd dd ?_
    have q := (kw_val rel k).isSome_eq
    rw [Option.isSome_map] at q
    rw [← q, ← l0]
    exact h _ (I.tok _)
theorem g_get2 {Q : Value → Shared → Prop} (hu : A.units + 64 < cLine) (I : Inv X pins σ H s) (g : DLk X H a y o) (ry : RelV y u) (rd : RelV d r) (h : ∀ w' s', Inv X pins σ H s' → RelV (o.getD d) w' → Q w' s') :
    wpAny (model X.prog X.w) A (call (.builtin "dict.get") [.ref a, u, r]) Q E s := by
  obtain ⟨m, k, ⟨⟨kvs, ob, e, rfl⟩, l, ey, rfl⟩ | ⟨⟨kvs, e, rfl⟩, b, ey, hdp, hb⟩, l0⟩ := g
  · subst ey
    rw [valV_key] at l0
    obtain ⟨z, hd, vs, rel, dd⟩ := dk_at I e
    refine call_meetsIn PySem.F.slot_dict_get dd.typeIs PySem.F.entry_dict_get (PySem.F.args_dict_get_3 _ _ _) (meets_dict_get_default (mixKind X.prog X.w) a (leaf_is ry) hd r) ⟨_, dd.mapOf, h _ _ (I.tok _) ?_⟩
    rw [l0]
    exact (rel.val l).getD rd
  · subst ey
    cases (show u = Value.ref b from ry)
    obtain ⟨z, hd, hdk, xs, rel, dd⟩ := dt_at I e
    refine call_meetsIn PySem.F.slot_dict_get dd.typeIs PySem.F.entry_dict_get (PySem.F.args_dict_get_3 _ _ _) (meetsH_dict_get_default (nestedKind X.prog X.w) a b hd r) ⟨room8 hu, k, xs, ⟨hb pins σ s I, hdp⟩, dd, h _ _ (I.tok _) ?_⟩
    rw [l0]
    exact (kw_val rel k).getD rd
end
end U
namespace U
set_option autoImplicit false
open PySem PySem.Spec PyProof.Rows L2

/-! ### stores -/
def putT (kvs : List (NestedKey × Addr × V)) (k : NestedKey) (b : Addr) (v : V) : List (NestedKey × Addr × V) :=
  if (kvs.any fun p => decide (p.1 = k)) = true then kvs.map (fun p => if p.1 = k then (p.1, p.2.1, v) else p) else kvs ++ [(k, b, v)]
theorem length_putT (kvs : List (NestedKey × Addr × V)) (k : NestedKey) (b : Addr) (v : V) : (putT kvs k b v).length ≤ kvs.length + 1 := by
  unfold putT
  split
  · rw [List.length_map]; omega
  · rw [List.length_append, List.length_singleton]; omega
/-- the heap behind a[y] = v -/
def DPt (X : Cx) (H : Hp) (a : Addr) (y v : V) (Q : Hp → Prop) : Prop :=
  (∃ kvs l ob, H a = some (DkO X.prog X.w a kvs ob) ∧ y = lfV l ∧ kvs.length < sizeLine ∧ ∀ ob', Q (upd H a (DkO X.prog X.w a (putK kvs l v) ob'))) ∨
  ∃ kvs k b, DcT' X H a kvs ∧ y = .ref b ∧ k.depth ≤ 8 ∧ NKs X H k b ∧ kvs.length < sizeLine ∧ ∀ ob', Q (upd H a (DtO X.prog X.w a (putT kvs k b v) ob'))
theorem dkO_new {P : Program} {w : World} {h' : Heap} {a : Addr} {kvs : List (L2.Key × V)} {vs : List (L2.Key × Value)} (z : kvs.length ≤ sizeLine) (hd : (a == sysModules) = false) (rel : KV kvs vs) (dd : h'.DictOf (mixKind P w) a vs) :
    ∃ ob, ∀ H' : Hp, ObjOk P w H' h' a (DkO P w a kvs ob) := by
  obtain ⟨ob, es0, ep0, ho, dd0⟩ := id dd
  refine ⟨ob, fun H' => ⟨⟨ho, z, hd, vs, rel, dd⟩, ⟨ob, ho⟩, fun h1 h2 p k => ?_⟩⟩
  obtain ⟨q0, q1, q2, vs, q3, o, es, ep, q4, q5⟩ := p
  exact ⟨k _ q0, q1, q2, vs, q3, o, es, ep, k _ q4, q5⟩
theorem dtO_new {P : Program} {w : World} {h' : Heap} {a : Addr} {kvs : List (NestedKey × Addr × V)} {xs : List (NestedKey × Addr × Value)} (z : kvs.length ≤ sizeLine) (hd : (a == sysModules) = false) (hk : ∀ p ∈ kvs, p.1.depth ≤ 8) (rel : KW kvs xs) (dd : h'.DictOfH (nestedKind P w) a xs) :
    ∃ ob, ∀ H' : Hp, ObjOk P w H' h' a (DtO P w a kvs ob) := by
  obtain ⟨o, es, ep, h1, h2, h3, h4, _, h5⟩ := dd
  refine ⟨o, fun H' => ⟨⟨h1, z, hd, hk, xs, rel, o, es, ep, h1, h2, h3, h4, h5⟩, ⟨o, h1⟩, fun h1 h2 p k => ?_⟩⟩
  obtain ⟨q0, q1, q2, q3, xs, q4, o, es, ep, q5, q6⟩ := p
  exact ⟨k _ q0, q1, q2, q3, xs, q4, o, es, ep, k _ q5, q6⟩
theorem kw_any {kvs : List (NestedKey × Addr × V)} {xs : List (NestedKey × Addr × Value)} (r : KW kvs xs) (k : NestedKey) : (kvs.any fun p => decide (p.1 = k)) = (atKey xs k).isSome := by
  unfold KW at r
  induction r with
  | nil => rfl
  | @cons p q ps qs h t ih =>
    unfold atKey at ih ⊢
    rw [List.any_cons, List.find?_cons, ih, ← h.1]
    by_cases e : p.1 = k
    · rw [decide_eq_true e, Bool.true_or]; rfl
    · rw [decide_eq_false e, Bool.false_or]
theorem kw_put {kvs : List (NestedKey × Addr × V)} {xs : List (NestedKey × Addr × Value)} (r : KW kvs xs) (k : NestedKey) {b : Addr} {y : V} {u : Value} (ry : RelV y u) : KW (putT kvs k b y) (storedH xs k b u) := by
  have e := kw_any r k
  unfold putT storedH
  rw [e]
  by_cases q : (atKey xs k).isSome = true
  · rw [if_pos q, if_pos q]
    clear e q
    unfold KW at r ⊢
    induction r with
    | nil => exact .nil
    | @cons p q ps qs h t ih =>
      rw [List.map_cons, List.map_cons]
      refine .cons ?_ ih
      obtain ⟨h1, h2, h3⟩ := h
      unfold putAt
      by_cases e : p.1 = k
      · rw [if_pos e, if_pos (h1.symm.trans e)]; exact ⟨h1, h2, ry⟩
      · rw [if_neg e, if_neg (fun z => e (h1.trans z))]; exact ⟨h1, h2, h3⟩
  · rw [if_neg q, if_neg q]; exact Paired.snoc r ⟨rfl, rfl, ry⟩
theorem putT_depth {kvs : List (NestedKey × Addr × V)} {k : NestedKey} {b : Addr} {y : V} (h : ∀ p ∈ kvs, p.1.depth ≤ 8) (hk : k.depth ≤ 8) : ∀ p ∈ putT kvs k b y, p.1.depth ≤ 8 := by
  intro p hp
  unfold putT at hp
  split at hp
  · obtain ⟨q, hq, e⟩ := List.mem_map.mp hp
    split at e
    · rw [← e]; exact h q hq
    · rw [← e]; exact h q hq
  · rcases List.mem_append.mp hp with q | q
    · exact h p q
    · rw [List.mem_singleton.mp q]; exact hk
section
variable {X : Cx} {pins : List (Addr × Obj)} {σ : St} {H : Hp} {s : Shared} {a : Addr} {y v d : V} {u r : Value} {o : Option V} {A : Around} {E : Value → Shared → Prop}
theorem DcT'.mut {kvs : List (NestedKey × Addr × V)} (h : DcT' X H a kvs) : L2.Mut (H a) := by
  rcases h with ⟨⟨ob, h⟩, _⟩ | ⟨_, ob, h⟩
  · rw [h]; exact True.intro
  · rw [h]; exact True.intro
theorem g_setItem {QH : Hp → Prop} {Q : Unit → Shared → Prop} (hu : A.units + 64 < cLine) (I : Inv X pins σ H s) (g : DPt X H a y v QH) (ry : RelV y u) (rv : RelV v r) (h : ∀ H' s', Inv X pins σ H' s' → QH H' → Q () s') :
    wpAny (model X.prog X.w) A (setItem (.ref a) u r) Q E s := by
  rcases g with ⟨kvs, k, ob, e, ey, l, eH⟩ | ⟨kvs, k, b, e, ey, hdp, hb, l, eH⟩
  · subst ey
    obtain ⟨z, hd, vs, rel, dd⟩ := dk_at I e
    have hz : vs.length ≤ sizeLine := by rw [← rel.length]; exact z
    have hl : (putK kvs k v).length ≤ sizeLine := by have := length_putK kvs k v; omega
    refine wpAny_setItem_pairs (hsz := hz) (leaf_is ry) dd fun h' dd' hs => ?_
    obtain ⟨ob', ok'⟩ := dkO_new hl hd (rel.put k rv) dd'
    refine h _ _ ?_ (eH ob')
    have he : ∃ q, h'.get? a = some q := let ⟨q, _, _, hq, _⟩ := dd'; ⟨q, hq⟩
    exact d_write I (by rw [e]; exact True.intro) hs he (ok' _)
  · subst ey
    cases (show u = Value.ref b from ry)
    obtain ⟨z, hd, hdk, xs, rel, dd⟩ := dt_at I e
    have hz : xs.length ≤ sizeLine := by rw [← Paired.length rel]; exact z
    have hl : (putT kvs k b v).length ≤ sizeLine := by have := length_putT kvs k b v; omega
    refine wpAny_setItem_heap (hsz := hz) (room8 hu) ⟨hb pins σ s I, hdp⟩ dd fun h' dd' hs => ?_
    obtain ⟨ob', ok'⟩ := dtO_new hl hd (putT_depth hdk hdp) (kw_put rel k rv) dd'
    refine h _ _ ?_ (eH ob')
    have he : ∃ q, h'.get? a = some q := let ⟨q, _, _, hq, _⟩ := dd'; ⟨q, hq⟩
    exact d_write I e.mut hs he (ok' _)
def rSd (X : Cx) (a : Addr) (y z : V) (H : Hp) (Q : VK) : Prop :=
  (∃ kvs l ob, H a = some (DkO X.prog X.w a kvs ob) ∧ y = lfV l ∧ kvs.length < sizeLine ∧ (∀ v, valV kvs l = some v → Q v H) ∧ (valV kvs l = none → ∀ ob', Q z (upd H a (DkO X.prog X.w a (putK kvs l z) ob')))) ∨
  ∃ kvs k b, DcT' X H a kvs ∧ y = .ref b ∧ k.depth ≤ 8 ∧ NKs X H k b ∧ kvs.length < sizeLine ∧ (∀ v, valV (kvs.map fun p => (p.1, p.2.2)) k = some v → Q v H) ∧ (valV (kvs.map fun p => (p.1, p.2.2)) k = none → ∀ ob', Q z (upd H a (DtO X.prog X.w a (putT kvs k b z) ob')))
theorem g_setd {Q : VK} {Q' : Value → Shared → Prop} (hu : A.units + 64 < cLine) (I : Inv X pins σ H s) (g : rSd X a y d H Q) (ry : RelV y u) (rd : RelV d r)
    (h : ∀ (v : V) (H' : Hp) (w' : Value) (s' : Shared), Inv X pins σ H' s' → RelV v w' → Q v H' → Q' w' s') :
    wpAny (model X.prog X.w) A (call (.builtin "dict.setdefault") [.ref a, u, r]) Q' E s := by
  rcases g with ⟨kvs, k, ob, e, ey, l, g1, g2⟩ | ⟨kvs, k, b, e, ey, hdp, hb, l, g1, g2⟩
  · subst ey
    obtain ⟨z, hd, vs, rel, dd⟩ := dk_at I e
    have hz : vs.length ≤ sizeLine := by rw [← rel.length]; exact z
    have hl : (putK kvs k d).length ≤ sizeLine := by have := length_putK kvs k d; omega
    refine call_meetsIn PySem.F.slot_dict_setdefault dd.typeIs PySem.F.entry_dict_setdefault (PySem.F.args_dict_setdefault_3 _ _ _) (kt_meets_setdefault (mixKind X.prog X.w) a (leaf_is ry) hd r) ⟨vs, dd, hz, fun v hv => ?_, fun hn h' dd' hs => ?_⟩
    · have q := rel.val k
      rw [hv] at q
      cases q0 : valV kvs k with
      | none => rw [q0] at q; exact (show False from q).elim
      | some v0 =>
        rw [q0] at q
        exact h v0 H _ _ (I.tok _) q (g1 v0 q0)
    · have q := rel.val k
      rw [hn] at q
      cases q0 : valV kvs k with
      | some v0 => rw [q0] at q; exact (show False from q).elim
      | none =>
        have he : ∃ q, h'.get? a = some q := let ⟨q, _, _, hq, _⟩ := dd'; ⟨q, hq⟩
        obtain ⟨ob', ok'⟩ := dkO_new hl hd (rel.put k rd) dd'
        exact h d _ _ _ (d_write (t' := s.toks + 1) I (by rw [e]; exact True.intro) hs he (ok' _)) rd (g2 q0 ob')
  · subst ey
    cases (show u = Value.ref b from ry)
    obtain ⟨z, hd, hdk, xs, rel, dd⟩ := dt_at I e
    have hz : xs.length ≤ sizeLine := by rw [← Paired.length rel]; exact z
    have hl : (putT kvs k b d).length ≤ sizeLine := by have := length_putT kvs k b d; omega
    refine call_setdefault_heap (hsz := hz) (room8 hu) ⟨hb pins σ s I, hdp⟩ hd dd (fun p hp => ?_) fun hn h' dd' hs => ?_
    · have q := kw_val rel k
      rw [hp] at q
      cases q0 : valV (kvs.map fun p => (p.1, p.2.2)) k with
      | none => rw [q0] at q; exact (show False from q).elim
      | some v0 =>
        rw [q0] at q
        exact h v0 H _ _ (I.tok _) q (g1 v0 q0)
    · have q := kw_val rel k
      rw [hn] at q
      cases q0 : valV (kvs.map fun p => (p.1, p.2.2)) k with
      | some v0 => rw [q0] at q; exact (show False from q).elim
      | none =>
        have he : ∃ q, h'.get? a = some q := let ⟨q, _, _, hq, _⟩ := dd'; ⟨q, hq⟩
        obtain ⟨ob', ok'⟩ := dtO_new hl hd (putT_depth hdk hdp) (kw_put rel k rd) dd'
        exact h d _ _ _ (d_write (t' := s.toks + (nestedKind X.prog X.w).draws k) I e.mut hs he (ok' _)) rd (g2 q0 ob')
end

/-! ### rules on values -/
section
variable {X : Cx}
def rIxC (X : Cx) : R2 := fun x y H Q => ∃ a v, x = .ref a ∧ DLk X H a y (some v) ∧ Q v H
theorem ix_dic (hu : X.A.units + 64 < cLine) : IxR X (rIxC X) := by
  intro value slice pins s σ H x y v u Q I rx ry h hs
  obtain ⟨a, z, rfl, g, q⟩ := h
  obtain rfl : v = Value.ref a := rx
  obtain ⟨n, hd⟩ := g.isDic
  exact tail_any (isDic_at I hd).1 PySem.F.slot_dict_getitem.lookup (g_getItem hu I g ry fun w' s' I' r' => ⟨z, H, I', r', q⟩) hs
def rInC (X : Cx) : R2 := fun y x H Q => ∃ a o, x = .ref a ∧ DLk X H a y o ∧ Q (.bl o.isSome) H
def rNotInC (X : Cx) : R2 := fun y x H Q => ∃ a o, x = .ref a ∧ DLk X H a y o ∧ Q (.bl (!o.isSome)) H
theorem op_inC (hu : X.A.units + 64 < cLine) : OpR X (compareOp .In) (rInC X) := by
  intro pins s σ H x y v u Q I rx ry q
  obtain ⟨a, o, rfl, g, q⟩ := q
  obtain rfl : u = Value.ref a := ry
  exact g_in hu I g rx fun s' I' => ⟨.bl o.isSome, H, I', rfl, q⟩
theorem op_notInC (hu : X.A.units + 64 < cLine) : OpR X (compareOp .NotIn) (rNotInC X) := by
  intro pins s σ H x y v u Q I rx ry q
  obtain ⟨a, o, rfl, g, q⟩ := q
  obtain rfl : u = Value.ref a := ry
  exact g_notIn hu I g rx fun s' I' => ⟨.bl (!o.isSome), H, I', rfl, q⟩
def rSetC (X : Cx) : TSet := fun o i v H Q => ∃ a, o = .ref a ∧ DPt X H a i v Q
theorem set_dic (hu : X.A.units + 64 < cLine) : PSet X (rSetC X) := by
  intro pins s σ H o i v ov iv u Q I ro ri rv h
  obtain ⟨a, eo, g⟩ := h
  subst eo
  cases (show ov = Value.ref a from ro)
  exact g_setItem hu I g ri rv fun H' s' I' q => ⟨H', I', q⟩
def rGet2 (X : Cx) : V → List V → Hp → VK → Prop := fun x xs H Q => ∃ a y z o, x = .ref a ∧ xs = [y, z] ∧ DLk X H a y o ∧ Q (o.getD z) H
theorem mt_get2 (hu : X.A.units + 64 < cLine) : MtR X "dict.get" (rGet2 X) := by
  intro pins s σ H x xs v us Q I rx rs q
  obtain ⟨a, y, z, o, rfl, rfl, g, q⟩ := q
  cases rs with
  | cons r1 rs =>
    cases rs with
    | cons r2 rs =>
      cases rs
      cases (show v = Value.ref a from rx)
      exact g_get2 hu I g r1 r2 fun w' s' I' r' => ⟨_, H, I', r', q⟩
def rSetd (X : Cx) : V → List V → Hp → VK → Prop := fun x xs H Q => ∃ a y z, x = .ref a ∧ xs = [y, z] ∧ rSd X a y z H Q
theorem mt_setd (hu : X.A.units + 64 < cLine) : MtR X "dict.setdefault" (rSetd X) := by
  intro pins s σ H x xs v us Q I rx rs q
  obtain ⟨a, y, z, rfl, rfl, q⟩ := q
  cases rs with
  | cons r1 rs =>
    cases rs with
    | cons r2 rs =>
      cases rs
      cases (show v = Value.ref a from rx)
      exact g_setd hu I q r1 r2 fun v H' w' s' I' r' q' => ⟨v, H', I', r', q'⟩
theorem call_lenC : CallR X (.builtin "len") (fun xs H Q => ∃ a n, xs = [V.ref a] ∧ IsDic X H a n ∧ Q (.int n) H) := by
  intro pins s σ H xs us Q I r h
  obtain ⟨a, n, rfl, hd, q⟩ := h
  obtain ⟨u, rfl, ru⟩ := vals1 r
  cases ru
  rcases hd with ⟨m, ⟨kvs, ob, h, rfl⟩, hn⟩ | ⟨m, ⟨kvs, h, rfl⟩, hn⟩
  · rw [List.length_map] at hn
    obtain ⟨z, hd, vs, rel, dd⟩ := dk_at I h
    refine call_len_dict hd dd (by rw [← rel.length]; rw [sizeLine_eq] at z; omega) ?_
    rw [← rel.length, hn]
    exact ⟨.int n, H, I.tok _, ⟨_, rfl⟩, q⟩
  · rw [List.length_map] at hn
    obtain ⟨z, hd, _, xs, rel, dd⟩ := dt_at I h
    have hl : xs.length = kvs.length := (Paired.length rel).symm
    have dk : s.heap.DictKeyed (nestedKind X.prog X.w) a (pairsH xs) := ⟨xs, dd, rfl⟩
    have hpl : (pairsH xs).length = n := by rw [pairsH_length, hl, hn]
    refine PyProof.Rows.call_len_slot (n := (pairsH xs).length) dk.typeIs PySem.F.slot_dict_len (fun Q' hq => len_keyed hd dk hq) (by omega) (by rw [sizeLine_eq] at z; omega) ?_
    rw [hpl]
    exact ⟨.int n, H, I.tok _, ⟨_, rfl⟩, q⟩
/-- a method of a dict -/
def tDM (X : Cx) (r : V → List V → Hp → VK → Prop) (to : TE) (t : TA) : TE := fun σ H Q => to σ H fun x H1 => (∃ a n, x = .ref a ∧ IsDic X H1 a n) ∧ t σ H1 fun xs H2 => r x xs H2 Q
theorem pe_dm {o e : Expr} {es : List Expr} {to : TE} {t : TA} {name : Str} {apos cpos : Pos} {id : String} {r : V → List V → Hp → VK → Prop} (slot : Slot "dict" name id) (hty : typeOf (.builtin id) = pure (.type "method_descriptor")) (hm : MtR X id r) (ho : PE X o to) (ha : PA X (e :: es) t)
    (hbase : attributeBase o name X.env (eval o X.env) = eval o X.env := by rfl)
    (hfew : ((backTo cpos (starEach (e :: es) X.env)).all (fun x => !x.1) && (backToKw cpos (keywordEach [] X.env)).all (fun x => x.1.isSome)
      && decide ((e :: es).length + ([] : List Keyword).length + (if ([] : List Keyword).isEmpty then 0 else 1) < 30)) = true := by rfl)
    (hline : (apos.endLine == cpos.line) = true := by rfl) (hs : starEach (e :: es) X.env = (false, eval e X.env) :: starEach es X.env := by rfl) (hplain : (backTo cpos (starEach es X.env)).any (·.1) = false := by rfl) :
    PE X (.Call (.Attribute o name apos) (e :: es) [] cpos) (tDM X r to t) := by
  refine ⟨fun pins s σ H Q I h => ?_⟩
  refine wpAny_Call_method_late hbase hfew hline rfl (thn (ho.run pins s σ H _ I h) fun v s1 ⟨x, H1, I1, r1, ⟨a, n, ex, hd⟩, q1⟩ => ?_)
  subst ex
  obtain rfl : v = Value.ref a := r1
  obtain ⟨h1, h2, _⟩ := isDic_at I1 hd
  refine ⟨"dict", id, PySem.F.plainAttrs_dict, slot, hty, h1, h2, ?_⟩
  have hA := ha.run cpos pins s1 σ H1 _ I1 q1
  rw [hs] at hA ⊢
  refine Calls.callWith_builtin (by show (false || (backTo cpos (starEach es X.env)).any (·.1)) = false; rw [hplain] <;> rfl) (Calls.evalArgs_plain ?_)
  exact thn hA fun us s2 ⟨vs, H2, I2, r2, q2⟩ => hm pins s2 σ H2 (.ref a) vs (.ref a) us Q I2 rfl r2 q2
def ob0 : Obj := { cls := .type "dict", data := .dict #[] }
theorem dkO_empty {P : Program} {w : World} {H : Hp} (h : Heap) (hb : sysModules < h.objs.size) : ObjOk P w H (h.push { cls := .type "dict", data := .dict #[] }) h.objs.size (DkO P w h.objs.size [] ob0) := by
  have hd : (h.objs.size == sysModules) = false := beq_eq_false_iff_ne.mpr (Ne.symm (Nat.ne_of_lt hb))
  have dd := Heap.DictOf.new (knd := mixKind P w) h
  have ho : (h.push { cls := .type "dict", data := .dict #[] }).get? h.objs.size = some ob0 := Heap.get?_push_size _ rfl
  refine ⟨⟨ho, Nat.zero_le _, hd, [], .nil, dd⟩, ⟨_, ho⟩, fun h1 h2 p k => ?_⟩
  obtain ⟨q0, q1, q2, vs, q3, o, es, ep, q4, q5⟩ := p
  exact ⟨k _ q0, q1, q2, vs, q3, o, es, ep, k _ q4, q5⟩
def tDNewC (X : Cx) : TE := fun _ H Q => ∀ p, H p = none → Q (.ref p) (upd H p (DkO X.prog X.w p [] ob0))
theorem pe_dnewC {pos : Pos} : PE X (.Dict [] [] pos) (tDNewC X) := ⟨fun pins s σ H Q I h =>
  wpAny_Dict_empty ⟨.ref s.heap.objs.size, _, I.laid (a := s.heap.objs.size) (o := DkO X.prog X.w s.heap.objs.size [] ob0) (t' := s.toks) (fun _ _ q => Heap.get?_push_of_some _ q) (Nat.le_refl _) (dkO_empty s.heap I.big), rfl, h _ (I.hok.fresh (Nat.le_refl _))⟩⟩
/-- {k: v} -/
def tDisp1 (X : Cx) (leaf : Bool) (tk tv : TE) : TE := fun σ H Q => ∀ p, H p = none → tk σ (upd H p (DkO X.prog X.w p [] ob0)) fun y H1 => tv σ H1 fun v H2 => H2 p = some (DkO X.prog X.w p [] ob0) ∧
  ((leaf = true ∧ ∃ l, y = lfV l ∧ ∀ ob', Q (.ref p) (upd H2 p (DkO X.prog X.w p [(l, v)] ob'))) ∨ (leaf = false ∧ ∃ k b, y = .ref b ∧ k.depth ≤ 8 ∧ NKs X H2 k b ∧ ∀ ob', Q (.ref p) (upd H2 p (DtO X.prog X.w p [(k, b, v)] ob'))))
theorem pe_disp1K {pos : Pos} {k v : Expr} {tk tv : TE} (hk : PE X k tk) (hv : PE X v tv) : PE X (.Dict [some k] [v] pos) (tDisp1 X true tk tv) := by
  refine ⟨fun pins s σ H Q I q => ?_⟩
  have hn := I.hok.fresh (Nat.le_refl s.heap.objs.size)
  have I1 := I.laid (a := s.heap.objs.size) (o := DkO X.prog X.w s.heap.objs.size [] ob0) (h' := s.heap.push { cls := .type "dict", data := .dict #[] }) (t' := s.toks) (fun _ _ q => Heap.get?_push_of_some _ q) (Nat.le_refl _) (dkO_empty s.heap I.big)
  refine wpAny_Dict_walk (knd := mixKind X.prog X.w) rfl rfl (by simp) (by simp) ?_
  refine pairTrees_cons_walk (thn (hk.run pins _ σ _ _ I1 (q _ hn)) fun u s1 ⟨y, H1, I2, ry, q1⟩ => thn (hv.run pins s1 σ H1 _ I2 q1) fun w2 s2 ⟨z, H2, I3, rz, e, q2⟩ => pairTrees_nil_walk ?_)
  rcases q2 with ⟨_, l, rfl, q2⟩ | ⟨h, _⟩
  case inr => cases h
  obtain ⟨z0, hd, vs0, r0, dd⟩ := dk_at I3 e
  cases r0
  refine ⟨[(l, w2)], ⟨leaf_is ry, rfl, True.intro⟩, dd, fun h' dd' hs => ?_⟩
  have he : ∃ q, h'.get? s.heap.objs.size = some q := let ⟨q, _, _, hq, _⟩ := dd'; ⟨q, hq⟩
  obtain ⟨ob', ok'⟩ := dkO_new (P := X.prog) (w := X.w) (kvs := [(l, z)]) (by rw [sizeLine_eq]; simp) hd (.cons ⟨rfl, rz⟩ .nil) dd'
  exact ⟨.ref s.heap.objs.size, _, d_write I3 (by rw [e]; exact True.intro) hs he (ok' _), rfl, q2 ob'⟩
theorem wpAny_Dict_pairsA {prog : Program} {w : World} {K : Type} [DecidableEq K] {knd : HeapKind prog w K} {A : Around} {E : Value → Shared → Prop} {s : Shared} {env : Env} {keys : List (Option Expr)} {values : List Expr} {pos : Pos} {pairs : List (Sem Value × Sem Value)} {Q : Value → Shared → Prop} (hu : knd.room A)
    (hshape : (evalEachOpt keys env).zip ((evalEach values env).map fun v => do let x ← v; standAt pos; pure x) = pairs.map fun p => (some p.1, p.2)) (h0 : pairs ≠ []) (hlen : pairs.length ≤ 15)
    (h : wpAny (model prog w) A (evalPairs pairs) (fun vs s₁ => ∃ ps, CarriesH knd s₁.heap vs ps ∧ s₁.heap.DictOfH knd s.heap.objs.size [] ∧
      ∀ h' tk, h'.DictOfH knd s.heap.objs.size (storedAllH [] ps) → Heap.SameBut s.heap.objs.size s₁.heap h' → Q (.ref s.heap.objs.size) { s₁ with heap := h', toks := tk }) E
      { s with heap := s.heap.push { cls := .type "dict", data := .dict #[] } }) :
    wpAny (model prog w) A (eval (.Dict keys values pos) env) Q E s := by
  rw [arm_eval_Dict, hshape, dictDisplay_pairs pairs h0 (by omega)]
  exact wpAny_bind (wpAny_standAt (wpAny_bind (wpAny_subDictH (knd := knd) (Q := fun d s' => wpAny (model prog w) A (pure (Value.ref d)) Q E s') hu hlen
    (wpAny_mono h (fun vs s₁ h₁ => by obtain ⟨ps, hc, hm, hq⟩ := h₁; exact ⟨ps, hc, hm, fun h' tk a b => wpAny_pure (hq h' tk a b)⟩) fun _ _ e => e))))
theorem pe_disp1T {pos : Pos} {k v : Expr} {tk tv : TE} (hu : X.A.units + 64 < cLine) (hk : PE X k tk) (hv : PE X v tv) : PE X (.Dict [some k] [v] pos) (tDisp1 X false tk tv) := by
  refine ⟨fun pins s σ H Q I q => ?_⟩
  have hn := I.hok.fresh (Nat.le_refl s.heap.objs.size)
  have I1 := I.laid (a := s.heap.objs.size) (o := DkO X.prog X.w s.heap.objs.size [] ob0) (h' := s.heap.push { cls := .type "dict", data := .dict #[] }) (t' := s.toks) (fun _ _ q => Heap.get?_push_of_some _ q) (Nat.le_refl _) (dkO_empty s.heap I.big)
  refine wpAny_Dict_pairsA (knd := nestedKind X.prog X.w) (by show X.A.units + 8 < cLine; omega) (pairs := pairTrees [some k] [v] X.env pos) rfl (by simp [pairTrees]) (by simp [pairTrees]) ?_
  refine pairTrees_cons_walk (thn (hk.run pins _ σ _ _ I1 (q _ hn)) fun u s1 ⟨y, H1, I2, ry, q1⟩ => thn (hv.run pins s1 σ H1 _ I2 q1) fun w2 s2 ⟨z, H2, I3, rz, e, q2⟩ => pairTrees_nil_walk ?_)
  rcases q2 with ⟨h, _⟩ | ⟨_, kk, b, rfl, hdp, hb, q2⟩
  case inl => cases h
  cases (show u = Value.ref b from ry)
  obtain ⟨z0, hd, _, xs0, r0, dd⟩ := dt_at (kvs := []) I3 (.inr ⟨rfl, _, e⟩)
  cases r0
  refine ⟨[(kk, b, w2)], ⟨rfl, rfl, ⟨hb pins σ s2 I3, hdp⟩, True.intro⟩, dd, fun h' tk dd' hs => ?_⟩
  have he : ∃ q, h'.get? s.heap.objs.size = some q := let ⟨q, _, _, hq, _⟩ := dd'; ⟨q, hq⟩
  obtain ⟨ob', ok'⟩ := dtO_new (P := X.prog) (w := X.w) (kvs := [(kk, b, z)]) (xs := [(kk, b, w2)]) (by rw [sizeLine_eq]; simp) hd (fun p hp => by rw [List.mem_singleton.mp hp]; exact hdp) (.cons ⟨rfl, rfl, rz⟩ .nil) dd'
  exact ⟨.ref s.heap.objs.size, _, d_write I3 (by rw [e]; exact True.intro) hs he (ok' _), rfl, q2 ob'⟩
end
end U
namespace U
set_option autoImplicit false
open PySem PySem.Spec PyProof.Rows L2

/-! ### dicts as data -/
def D.isLf (d : D) : Bool := d.lf.isSome
def D.isTk : D → Bool
  | .tup ds => match D.nkL ds with
    | some ks => decide ((NestedKey.tup ks).depth ≤ 8)
    | none => false
  | _ => false
def dKd (ks : List D) (d : D) : Bool := (d.isLf && ks.all D.isLf) || (d.isTk && ks.all D.isTk)
def dLook : List D → List D → D → Option D
  | k :: ks, v :: vs, d => if k.nk = d.nk then some v else dLook ks vs d
  | _, _, _ => none
def replD : List D → List D → D → D → List D
  | k :: ks, v :: vs, d, x => (if k.nk = d.nk then x else v) :: replD ks vs d x
  | _, vs, _, _ => vs
def dHas (ks : List D) (d : D) : Bool := ks.any fun k => decide (k.nk = d.nk)
def dSto (ks vs : List D) (d x : D) : Option (List D × List D) :=
  if dKd ks d && decide (ks.length < 16777216) then some (if dHas ks d then (ks, replD ks vs d x) else (ks ++ [d], vs ++ [x])) else none
theorem isTk_nk {d : D} (h : d.isTk = true) : ∃ ks, d.nk = some (.tup ks) ∧ (NestedKey.tup ks).depth ≤ 8 ∧ ∃ ds, d = .tup ds := by
  cases d with
  | tup ds =>
    unfold D.isTk at h
    dsimp only at h
    cases q : D.nkL ds with
    | none => rw [q] at h; cases h
    | some ks =>
      rw [q] at h
      exact ⟨ks, by show (D.nkL ds).map NestedKey.tup = _; rw [q]; rfl, of_decide_eq_true h, ds, rfl⟩
  | _ => cases h
theorem isLf_lf {d : D} (h : d.isLf = true) : ∃ l, d.lf = some l := Option.isSome_iff_exists.mp h
theorem lf_not_tk {d : D} (h : d.isLf = true) (h' : d.isTk = true) : False := by
  obtain ⟨_, _, _, ds, rfl⟩ := isTk_nk h'
  cases h
/-- a dict that stands at a -/
def DicRep (c : Cc) (A : Addr → Prop) (H : Hp) (a : Addr) (ks vs : List D) : Prop :=
  (∃ (kvs : List (L2.Key × V)) (ob : Obj), H a = some (DkO c.P c.w a kvs ob) ∧ ks.map D.lf = kvs.map (fun p => some p.1) ∧ RepL c A H (kvs.map (·.2)) vs) ∨
  ∃ (kvs : List (NestedKey × Addr × V)) (ob : Obj), H a = some (DtO c.P c.w a kvs ob) ∧ kvs ≠ [] ∧ ks.map D.nk = kvs.map (fun p => some p.1) ∧ RepL c A H (kvs.map fun p => V.ref p.2.1) ks ∧ RepL c A H (kvs.map (·.2.2)) vs
theorem cell_dic {c : Cc} {A : Addr → Prop} {H : Hp} {a : Addr} {ks vs ds : List D} {xs : List V} (h : Cell c H a (.dic ks vs) xs ds) (r : RepL c A H xs ds) : DicRep c A H a ks vs := by
  cases h with
  | dicK h h1 => exact .inl ⟨_, _, h, h1, r⟩
  | dicT h hne h1 =>
    have hl := congrArg List.length h1
    rw [List.length_map, List.length_map] at hl
    have := RepL.split (by rw [List.length_map]; exact hl.symm) r
    exact .inr ⟨_, _, h, hne, h1, this.1, this.2⟩
theorem repT_dic {c : Cc} {A : Addr → Prop} {H : Hp} {v : V} {ks vs : List D} (h : RepT c A H v (.dic ks vs)) : ∃ a, v = .ref a ∧ DicRep c A H a ks vs := by
  rcases h with h | ⟨a, ds, xs, rfl, h1, h2⟩
  · cases h with
    | dicK h1 _ h3 h4 => exact ⟨_, rfl, .inl ⟨_, _, h1, h3, h4⟩⟩
    | dicT h1 _ h2 h3 h4 h5 => exact ⟨_, rfl, .inr ⟨_, _, h1, h2, h3, h4, h5⟩⟩
  · exact ⟨a, rfl, cell_dic h1 h2⟩
section
variable {X : Cx} {c : Cc} {A : Addr → Prop} {H : Hp} {a : Addr} {ks vs : List D}
abbrev COk (X : Cx) (c : Cc) : Prop := X.K = c.K ∧ c.P = X.prog ∧ c.w = X.w
theorem nks_of (hC : COk X c) : ∀ {kvs : List (NestedKey × Addr × V)} {ks : List D}, ks.map D.nk = kvs.map (fun p => some p.1) → RepL c A H (kvs.map fun p => V.ref p.2.1) ks → ∀ p ∈ kvs, NKs X H p.1 p.2.1
  | [], _, _, _ => fun _ h => nomatch h
  | p :: kvs, ks, e, r => by
    cases ks with
    | nil => cases e
    | cons k ks =>
      rw [List.map_cons, List.map_cons] at e
      rw [List.map_cons] at r
      injection e with e1 e2
      cases r with
      | cons r1 r2 =>
        intro q hq
        rcases List.mem_cons.mp hq with z | z
        · subst z
          exact fun pins σ s I => nested_of I hC.1 k _ _ _ r1 rfl e1
        · exact nks_of hC e2 r2 q z
theorem kyT_of (hC : COk X c) {y : V} {d : D} (h : Rep c A H y d) (hk : d.isTk = true) : ∃ k, d.nk = some k ∧ KyT X H y k := by
  obtain ⟨ks, e, hd, ds, rfl⟩ := isTk_nk hk
  cases h with
  | tup h1 h2 => exact ⟨_, e, _, rfl, hd, fun pins σ s I => nested_of I hC.1 (.tup ds) _ _ _ (.tup h1 h2) rfl e⟩
theorem look_K : ∀ {kvs : List (L2.Key × V)} {ks vs : List D} {d : D} {l : L2.Key}, ks.map D.lf = kvs.map (fun p => some p.1) → RepL c A H (kvs.map (·.2)) vs → d.nk = some (knk l) →
    (match dLook ks vs d with | some x => ∃ v, valV kvs l = some v ∧ Rep c A H v x | none => valV kvs l = none)
  | [], ks, vs, d, l, e, r, ed => by
    cases ks with
    | nil => unfold dLook; exact valV_nil
    | cons k ks => cases e
  | p :: kvs, ks, vs, d, l, e, r, ed => by
    cases ks with
    | nil => cases e
    | cons k ks =>
      rw [List.map_cons, List.map_cons] at e
      rw [List.map_cons] at r
      injection e with e1 e2
      cases r with
      | @cons v0 _ d0 ds0 r1 r2 =>
        unfold dLook
        by_cases q : p.1 = l
        · rw [if_pos (by rw [ed, lf_nk e1, q])]
          exact ⟨_, valV_pos q, r1⟩
        · rw [if_neg (fun z => q (by rw [ed, lf_nk e1] at z; exact key_inj' (Option.some.inj z)))]
          rw [valV_neg q]
          exact look_K e2 r2 ed
theorem look_T : ∀ {kvs : List (NestedKey × Addr × V)} {ks vs : List D} {d : D} {k : NestedKey}, ks.map D.nk = kvs.map (fun p => some p.1) → RepL c A H (kvs.map (·.2.2)) vs → d.nk = some k →
    (match dLook ks vs d with | some x => ∃ v, valV (kvs.map fun p => (p.1, p.2.2)) k = some v ∧ Rep c A H v x | none => valV (kvs.map fun p => (p.1, p.2.2)) k = none)
  | [], ks, vs, d, l, e, r, ed => by
    cases ks with
    | nil => unfold dLook; exact valV_nil
    | cons k ks => cases e
  | p :: kvs, ks, vs, d, l, e, r, ed => by
    cases ks with
    | nil => cases e
    | cons k ks =>
      rw [List.map_cons, List.map_cons] at e
      rw [List.map_cons] at r
      injection e with e1 e2
      cases r with
      | @cons v0 _ d0 ds0 r1 r2 =>
        unfold dLook
        rw [List.map_cons]
        by_cases q : p.1 = l
        · rw [if_pos (by rw [ed, e1, q])]
          exact ⟨_, valV_pos (p := (p.1, p.2.2)) q, r1⟩
        · rw [if_neg (fun z => q (by rw [ed, e1] at z; exact Option.some.inj z))]
          rw [valV_neg (p := (p.1, p.2.2)) q]
          exact look_T e2 r2 ed
theorem all_lf_T {kvs : List (NestedKey × Addr × V)} (h : ks.all D.isLf = true) (hne : kvs ≠ []) (r : RepL c A H (kvs.map fun p => V.ref p.2.1) ks) : False := by
  cases kvs with
  | nil => exact hne rfl
  | cons p kvs =>
    rw [List.map_cons] at r
    cases r with
    | @cons _ _ d _ r1 _ =>
      rw [List.all_cons, Bool.and_eq_true] at h
      obtain ⟨l, e⟩ := isLf_lf h.1
      have := leaf_of r1 e
      cases l <;> cases this
theorem all_tk_K {kvs : List (L2.Key × V)} (h : ks.all D.isTk = true) (e : ks.map D.lf = kvs.map (fun p => some p.1)) : kvs = [] ∧ ks = [] := by
  cases kvs with
  | nil => exact ⟨rfl, by simpa using e⟩
  | cons p kvs =>
    cases ks with
    | nil => cases e
    | cons k ks =>
      rw [List.map_cons, List.map_cons] at e
      injection e with e1 _
      rw [List.all_cons, Bool.and_eq_true] at h
      exact (lf_not_tk (by unfold D.isLf; rw [e1]; rfl) h.1).elim
theorem dlk_of (hC : COk X c) {y : V} {d : D} (h : DicRep c A H a ks vs) (hy : Rep c A H y d) (hk : dKd ks d = true) :
    ∃ o, DLk X H a y o ∧ (match dLook ks vs d with | some x => ∃ v, o = some v ∧ Rep c A H v x | none => o = none) := by
  unfold dKd at hk
  rw [Bool.or_eq_true, Bool.and_eq_true, Bool.and_eq_true] at hk
  rcases h with ⟨kvs, ob, h1, h2, h3⟩ | ⟨kvs, ob, h1, hne, h2, h3, h4⟩
  · rw [hC.2.1, hC.2.2] at h1
    rcases hk with ⟨k1, k2⟩ | ⟨k1, k2⟩
    · obtain ⟨l, e⟩ := isLf_lf k1
      refine ⟨valV kvs l, ⟨_, (knk l), .inl ⟨⟨kvs, ob, h1, rfl⟩, l, leaf_of hy e, rfl⟩, (valV_key kvs l).symm⟩, look_K h2 h3 (lf_nk e)⟩
    · obtain ⟨e1, e2⟩ := all_tk_K k2 h2
      obtain ⟨k, ek, hky⟩ := kyT_of hC hy k1
      subst e1 e2
      cases h3
      exact ⟨none, ⟨[], k, .inr ⟨⟨[], .inr ⟨rfl, ob, h1⟩, rfl⟩, hky⟩, rfl⟩, rfl⟩
  · rw [hC.2.1, hC.2.2] at h1
    rcases hk with ⟨k1, k2⟩ | ⟨k1, k2⟩
    · exact (all_lf_T k2 hne h3).elim
    · obtain ⟨k, ek, hky⟩ := kyT_of hC hy k1
      exact ⟨_, ⟨_, k, .inr ⟨⟨kvs, .inl ⟨⟨ob, h1⟩, nks_of hC h2 h3⟩, rfl⟩, hky⟩, rfl⟩, look_T h2 h4 ek⟩
theorem has_K : ∀ {kvs : List (L2.Key × V)} {ks : List D} {d : D} {l : L2.Key}, ks.map D.lf = kvs.map (fun p => some p.1) → d.nk = some (knk l) → (kvs.any fun p => decide (p.1 = l)) = dHas ks d
  | [], ks, d, l, e, ed => by
    cases ks with
    | nil => rfl
    | cons k ks => cases e
  | p :: kvs, ks, d, l, e, ed => by
    cases ks with
    | nil => cases e
    | cons k ks =>
      rw [List.map_cons, List.map_cons] at e
      injection e with e1 e2
      unfold dHas
      rw [List.any_cons, List.any_cons, has_K e2 ed]
      congr 1
      by_cases q : p.1 = l
      · rw [decide_eq_true q, decide_eq_true (by rw [ed, lf_nk e1, q])]
      · rw [decide_eq_false q, decide_eq_false (fun z => q (by rw [ed, lf_nk e1] at z; exact key_inj' (Option.some.inj z)))]
theorem has_T : ∀ {kvs : List (NestedKey × Addr × V)} {ks : List D} {d : D} {k : NestedKey}, ks.map D.nk = kvs.map (fun p => some p.1) → d.nk = some k → (kvs.any fun p => decide (p.1 = k)) = dHas ks d
  | [], ks, d, l, e, ed => by
    cases ks with
    | nil => rfl
    | cons k ks => cases e
  | p :: kvs, ks, d, l, e, ed => by
    cases ks with
    | nil => cases e
    | cons k ks =>
      rw [List.map_cons, List.map_cons] at e
      injection e with e1 e2
      unfold dHas
      rw [List.any_cons, List.any_cons, has_T e2 ed]
      congr 1
      by_cases q : p.1 = l
      · rw [decide_eq_true q, decide_eq_true (by rw [ed, e1, q])]
      · rw [decide_eq_false q, decide_eq_false (fun z => q (by rw [ed, e1] at z; exact Option.some.inj z))]
theorem repl_K {v : V} {x : D} (hv : Rep c A H v x) : ∀ {kvs : List (L2.Key × V)} {ks vs : List D} {d : D} {l : L2.Key}, ks.map D.lf = kvs.map (fun p => some p.1) → RepL c A H (kvs.map (·.2)) vs → d.nk = some (knk l) →
    RepL c A H ((kvs.map fun kv => if kv.1 = l then (kv.1, v) else kv).map (·.2)) (replD ks vs d x)
  | [], ks, vs, d, l, e, r, ed => by
    cases ks with
    | nil => unfold replD; exact r
    | cons k ks => cases e
  | p :: kvs, ks, vs, d, l, e, r, ed => by
    cases ks with
    | nil => cases e
    | cons k ks =>
      rw [List.map_cons, List.map_cons] at e
      rw [List.map_cons] at r
      injection e with e1 e2
      cases r with
      | cons r1 r2 =>
        unfold replD
        rw [List.map_cons, List.map_cons]
        refine .cons ?_ (repl_K hv e2 r2 ed)
        by_cases q : p.1 = l
        · rw [if_pos q, if_pos (by rw [ed, lf_nk e1, q])]; exact hv
        · rw [if_neg q, if_neg (fun z => q (by rw [ed, lf_nk e1] at z; exact key_inj' (Option.some.inj z)))]; exact r1
theorem repl_T {v : V} {x : D} (hv : Rep c A H v x) : ∀ {kvs : List (NestedKey × Addr × V)} {ks vs : List D} {d : D} {k : NestedKey}, ks.map D.nk = kvs.map (fun p => some p.1) → RepL c A H (kvs.map (·.2.2)) vs → d.nk = some k →
    RepL c A H ((kvs.map fun p => if p.1 = k then (p.1, p.2.1, v) else p).map (·.2.2)) (replD ks vs d x)
  | [], ks, vs, d, l, e, r, ed => by
    cases ks with
    | nil => unfold replD; exact r
    | cons k ks => cases e
  | p :: kvs, ks, vs, d, l, e, r, ed => by
    cases ks with
    | nil => cases e
    | cons k ks =>
      rw [List.map_cons, List.map_cons] at e
      rw [List.map_cons] at r
      injection e with e1 e2
      cases r with
      | cons r1 r2 =>
        unfold replD
        rw [List.map_cons, List.map_cons]
        refine .cons ?_ (repl_T hv e2 r2 ed)
        by_cases q : p.1 = l
        · rw [if_pos q, if_pos (by rw [ed, e1, q])]; exact hv
        · rw [if_neg q, if_neg (fun z => q (by rw [ed, e1] at z; exact Option.some.inj z))]; exact r1
/-- behind a store -/
theorem dpt_of (hC : COk X c) {y v : V} {d x : D} {ks' vs' : List D} (h : DicRep c A H a ks vs) (hy : Rep c A H y d) (hv : Rep c A H v x) (e : dSto ks vs d x = some (ks', vs')) :
    ∃ ys ds', RepL c A H ys ds' ∧ (∀ Q : Hp → Prop, (∀ u', Cell c (upd H a u') a (.dic ks' vs') ys ds' → Q (upd H a u')) → DPt X H a y v Q) ∧ ∀ Q : VK, (∀ z w, dLook ks vs d = some z → Rep c A H w z → Q w H) → (dLook ks vs d = none → ∀ u', Cell c (upd H a u') a (.dic ks' vs') ys ds' → Q v (upd H a u')) → rSd X a y v H Q := by
  unfold dSto at e
  split at e
  case isFalse => cases e
  rename_i hk
  rw [Bool.and_eq_true, decide_eq_true_eq] at hk
  obtain ⟨hk, hlen⟩ := hk
  have e := Option.some.inj e
  unfold dKd at hk
  rw [Bool.or_eq_true, Bool.and_eq_true, Bool.and_eq_true] at hk
  have tail : ∀ (kvs : List (NestedKey × Addr × V)), DcT' X H a kvs → kvs.length < sizeLine → ks.map D.nk = kvs.map (fun p => some p.1) → RepL c A H (kvs.map fun p => V.ref p.2.1) ks → RepL c A H (kvs.map (·.2.2)) vs → d.isTk = true →
      ∃ ys ds', RepL c A H ys ds' ∧ (∀ Q : Hp → Prop, (∀ u', Cell c (upd H a u') a (.dic ks' vs') ys ds' → Q (upd H a u')) → DPt X H a y v Q) ∧ ∀ Q : VK, (∀ z w, dLook ks vs d = some z → Rep c A H w z → Q w H) → (dLook ks vs d = none → ∀ u', Cell c (upd H a u') a (.dic ks' vs') ys ds' → Q v (upd H a u')) → rSd X a y v H Q := by
    intro kvs hd hl h2 h3 h4 k1
    obtain ⟨k, ek, b, rfl, hdp, hnk⟩ := kyT_of hC hy k1
    have hlk := look_T h2 h4 ek
    have hcell : ∀ ob', Cell c (upd H a (DtO X.prog X.w a (putT kvs k b v) ob')) a (.dic ks' vs') (((putT kvs k b v).map fun p => V.ref p.2.1) ++ (putT kvs k b v).map (·.2.2)) (ks' ++ vs') := fun ob' => by
      refine .dicT (ob := ob') (by rw [hC.2.1, hC.2.2]; exact upd_same) ?_ ?_
      · unfold putT
        split
        · rename_i ha
          intro z
          rw [List.map_eq_nil_iff] at z
          rw [z] at ha; cases ha
        · simp
      · unfold putT
        rw [has_T h2 ek]
        split at e
        · rename_i hh
          cases e
          rw [if_pos hh, h2, List.map_map]
          refine List.map_congr_left fun p _ => ?_
          show some p.1 = some (if p.1 = k then (p.1, p.2.1, v) else p).1
          split <;> rfl
        · rename_i hh
          cases e
          rw [if_neg hh, List.map_append, List.map_append, h2]
          simp [ek]
    have hrep : RepL c A H (((putT kvs k b v).map fun p => V.ref p.2.1) ++ (putT kvs k b v).map (·.2.2)) (ks' ++ vs') := by
      unfold putT
      rw [has_T h2 ek]
      split at e
      · rename_i hh
        cases e
        rw [if_pos hh]
        refine RepL.app ?_ (repl_T hv h2 h4 ek)
        rw [List.map_map]
        have : kvs.map ((fun p : NestedKey × Addr × V => V.ref p.2.1) ∘ fun p => if p.1 = k then (p.1, p.2.1, v) else p) = kvs.map fun p => V.ref p.2.1 := by
          refine List.map_congr_left fun p _ => ?_
          show V.ref (if p.1 = k then (p.1, p.2.1, v) else p).2.1 = _
          split <;> rfl
        rw [this]
        exact h3
      · rename_i hh
        cases e
        rw [if_neg hh, List.map_append, List.map_append]
        exact RepL.app (RepL.app h3 (.cons hy .nil)) (RepL.app h4 (.cons hv .nil))
    refine ⟨_, _, hrep, fun Q q => .inr ⟨kvs, k, b, hd, rfl, hdp, hnk, hl, fun ob' => q _ (hcell ob')⟩, fun Q q1 q2 => .inr ⟨kvs, k, b, hd, rfl, hdp, hnk, hl, fun w hw => ?_, fun hn ob' => ?_⟩⟩
    · cases q : dLook ks vs d with
      | none => rw [q] at hlk; rw [hlk] at hw; cases hw
      | some z =>
        rw [q] at hlk
        obtain ⟨w', e1, e2⟩ := hlk
        rw [e1] at hw
        cases hw
        exact q1 z w q e2
    · cases q : dLook ks vs d with
      | none => exact q2 q _ (hcell ob')
      | some z =>
        rw [q] at hlk
        obtain ⟨w', e1, e2⟩ := hlk
        rw [e1] at hn; cases hn
  rcases h with ⟨kvs, ob, h1, h2, h3⟩ | ⟨kvs, ob, h1, hne, h2, h3, h4⟩
  · rw [hC.2.1, hC.2.2] at h1
    have hl0 := congrArg List.length h2
    rw [List.length_map, List.length_map] at hl0
    rcases hk with ⟨k1, k2⟩ | ⟨k1, k2⟩
    · obtain ⟨l, el⟩ := isLf_lf k1
      have hl : kvs.length < sizeLine := by rw [sizeLine_eq]; omega
      have hlk := look_K h2 h3 (lf_nk el)
      have hcell : ∀ ob', Cell c (upd H a (DkO X.prog X.w a (putK kvs l v) ob')) a (.dic ks' vs') ((putK kvs l v).map (·.2)) vs' := fun ob' => by
        refine .dicK (ob := ob') (by rw [hC.2.1, hC.2.2]; exact upd_same) ?_
        unfold putK
        rw [has_K h2 (lf_nk el)]
        split at e
        · rename_i hh
          cases e
          rw [if_pos hh, h2, List.map_map]
          refine List.map_congr_left fun p _ => ?_
          show some p.1 = some (if p.1 = l then (p.1, v) else p).1
          split <;> rfl
        · rename_i hh
          cases e
          rw [if_neg hh, List.map_append, List.map_append, h2]
          simp [el]
      have hrep : RepL c A H ((putK kvs l v).map (·.2)) vs' := by
        unfold putK
        rw [has_K h2 (lf_nk el)]
        split at e
        · rename_i hh
          cases e
          rw [if_pos hh]
          exact repl_K hv h2 h3 (lf_nk el)
        · rename_i hh
          cases e
          rw [if_neg hh, List.map_append]
          exact RepL.app h3 (.cons hv .nil)
      refine ⟨_, _, hrep, fun Q q => .inl ⟨kvs, l, ob, h1, leaf_of hy el, hl, fun ob' => q _ (hcell ob')⟩, fun Q q1 q2 => .inl ⟨kvs, l, ob, h1, leaf_of hy el, hl, fun w hw => ?_, fun hn ob' => ?_⟩⟩
      · cases q : dLook ks vs d with
        | none => rw [q] at hlk; rw [hlk] at hw; cases hw
        | some z =>
          rw [q] at hlk
          obtain ⟨w', e1, e2⟩ := hlk
          rw [e1] at hw
          cases hw
          exact q1 z w q e2
      · cases q : dLook ks vs d with
        | none => exact q2 q _ (hcell ob')
        | some z =>
          rw [q] at hlk
          obtain ⟨w', e1, e2⟩ := hlk
          rw [e1] at hn; cases hn
    · obtain ⟨e1, e2⟩ := all_tk_K k2 h2
      subst e1 e2
      exact tail [] (.inr ⟨rfl, ob, h1⟩) (by rw [sizeLine_eq]; simp) rfl .nil h3 k1
  · rw [hC.2.1, hC.2.2] at h1
    have hl0 := congrArg List.length h2
    rw [List.length_map, List.length_map] at hl0
    rcases hk with ⟨k1, k2⟩ | ⟨k1, k2⟩
    · exact (all_lf_T k2 hne h3).elim
    · exact tail kvs (.inl ⟨⟨ob, h1⟩, nks_of hC h2 h3⟩) (by rw [sizeLine_eq]; omega) h2 h3 h4 k1
theorem isDic_of (hC : COk X c) (h : DicRep c A H a ks vs) : IsDic X H a ks.length := by
  rcases h with ⟨kvs, ob, h1, h2, h3⟩ | ⟨kvs, ob, h1, hne, h2, h3, h4⟩
  · rw [hC.2.1, hC.2.2] at h1
    have hl0 := congrArg List.length h2
    rw [List.length_map, List.length_map] at hl0
    exact .inl ⟨_, ⟨kvs, ob, h1, rfl⟩, by rw [List.length_map]; exact hl0.symm⟩
  · rw [hC.2.1, hC.2.2] at h1
    have hl0 := congrArg List.length h2
    rw [List.length_map, List.length_map] at hl0
    exact .inr ⟨_, ⟨kvs, .inl ⟨⟨ob, h1⟩, nks_of hC h2 h3⟩, rfl⟩, by rw [List.length_map]; exact hl0.symm⟩
end
end U
namespace U
set_option autoImplicit false
open PySem PySem.Spec PyProof.Rows L2

/-! ### dicts: what programs do with them -/
def dIx (x y : D) : Option (Bool × D) := match x with
  | .dic ks vs => if dKd ks y then (dLook ks vs y).map fun d => (false, d) else none
  | x => dIxS x y
def dIn (x y : D) : Option Bool := match y with
  | .dic ks vs => if dKd ks x then some (dLook ks vs x).isSome else none
  | y => dInS x y
def dNotIn (x y : D) : Option Bool := (dIn x y).map (!·)
def dLen : List D → Option (Bool × D)
  | [.dic ks _] => some (false, .int ks.length)
  | ds => dLenS ds
section
variable {X : Cx} {c : Cc} {A : Addr → Prop} {H : Hp}
theorem repT_key {ks : List D} {y : V} {d : D} (h : RepT c A H y d) (hk : dKd ks d = true) : Rep c A H y d := by
  rcases h with h | ⟨a, ds, xs, rfl, h, _⟩
  · exact h
  · cases h <;> (unfold dKd D.isLf D.isTk D.lf at hk; simp at hk)
theorem gs_ixC (hC : COk X c) : GS2 c dIx (fun x y H Q => rIx X.K x y H Q ∨ rIxC X x y H Q) := by
  intro A H x y d1 d2 fr d Q h1 h2 e k
  unfold dIx at e
  split at e
  · rename_i ks vs
    split at e
    case isFalse => cases e
    rename_i hk
    obtain ⟨a, rfl, hd⟩ := repT_dic h1
    obtain ⟨o, g, hl⟩ := dlk_of hC hd (repT_key h2 hk) hk
    cases q : dLook ks vs d2 with
    | none => rw [q] at e; cases e
    | some z =>
      rw [q] at e hl
      cases e
      obtain ⟨v, rfl, hv⟩ := hl
      exact .inr ⟨a, v, rfl, g, k v H (new_self hv)⟩
  · exact .inl (gs_ix hC.1 A H x y d1 d2 fr d Q h1 h2 e k)
theorem gs_inC (hC : COk X c) : GS2 c (blO dIn) (fun x y H Q => (rInD X.K x y H Q ∨ rInT X.K x y H Q) ∨ rInC X x y H Q) := by
  intro A H x y d1 d2 fr d Q h1 h2 e k
  unfold blO dIn at e
  split at e
  · rename_i ks vs
    split at e
    case isFalse => cases e
    rename_i hk
    obtain ⟨a, rfl, hd⟩ := repT_dic h2
    obtain ⟨o, g, hl⟩ := dlk_of hC hd (repT_key h1 hk) hk
    cases e
    refine .inr ⟨a, o, rfl, g, ?_⟩
    have : o.isSome = (dLook ks vs d1).isSome := by
      cases q : dLook ks vs d1 with
      | none => rw [q] at hl; rw [hl]; rfl
      | some z => rw [q] at hl; obtain ⟨v, rfl, _⟩ := hl; rfl
    rw [this]
    exact k _ H (new_self (.bl _))
  · exact .inl (gs_inS hC.1 A H x y d1 d2 fr d Q h1 h2 e k)
theorem gs_notInC (hC : COk X c) : GS2 c (blO dNotIn) (fun x y H Q => (rNotInD X.K x y H Q ∨ rNotInT X.K x y H Q) ∨ rNotInC X x y H Q) := by
  intro A H x y d1 d2 fr d Q h1 h2 e k
  unfold blO dNotIn dIn at e
  split at e
  · rename_i ks vs
    split at e
    case isFalse => cases e
    rename_i hk
    obtain ⟨a, rfl, hd⟩ := repT_dic h2
    obtain ⟨o, g, hl⟩ := dlk_of hC hd (repT_key h1 hk) hk
    cases e
    refine .inr ⟨a, o, rfl, g, ?_⟩
    have : o.isSome = (dLook ks vs d1).isSome := by
      cases q : dLook ks vs d1 with
      | none => rw [q] at hl; rw [hl]; rfl
      | some z => rw [q] at hl; obtain ⟨v, rfl, _⟩ := hl; rfl
    rw [this]
    exact k _ H (new_self (.bl _))
  · exact .inl (gs_notInS hC.1 A H x y d1 d2 fr d Q h1 h2 e k)
theorem gs_lenC (hC : COk X c) : GSN c dLen (fun xs H Q => (∃ x n, xs = [x] ∧ LenV X.K x H n ∧ Q (.int n) H) ∨ ∃ a n, xs = [V.ref a] ∧ IsDic X H a n ∧ Q (.int n) H) := by
  intro A H xs ds fr d Q h1 e k
  unfold dLen at e
  split at e
  · cases e
    obtain ⟨v, rfl, h⟩ := repTs1 h1
    obtain ⟨a, rfl, hd⟩ := repT_dic h
    exact .inr ⟨a, _, rfl, isDic_of hC hd, k _ H (new_self (.int _))⟩
  · exact .inl (gs_len hC.1 A H xs ds fr d Q h1 e k)
end
section
variable {X : Cx} {c : Cc} {E : XK} {k : Nat} {a b : Expr} {p q : Pk} {pos : Pos}
theorem e_ix (hr : Room k X.A) (hC : COk X c) (ha : DP X c E a p) (hb : DP X c E b q) (hs : PlainIx b := by exact fun _ _ => rfl) : DE X c E (.Subscript a b pos) (op2 dIx p q) := de_op2 (gs_ixC hC) ha hb fun h h' => pe_ix (ix_seq.or (ix_dic (hu64 hr))) h h' hs
theorem t_in (hr : Room k X.A) (hC : COk X c) (ha : DP X c E a p) (hb : DP X c E b q) (hm : behindInMarks .In b = false := by rfl) : DT X c E (.Compare a [.In] [b] pos) (tOp2 dIn p q) := dt_op2 (((op_inD (hu65 hr)).or (op_inT (hu65 hr))).or (op_inC (hu64 hr))) (gs_inC hC) ha hb hm
theorem t_notIn (hr : Room k X.A) (hC : COk X c) (ha : DP X c E a p) (hb : DP X c E b q) (hm : behindInMarks .NotIn b = false := by rfl) : DT X c E (.Compare a [.NotIn] [b] pos) (tOp2 dNotIn p q) := dt_op2 (((op_notInD (hu65 hr)).or (op_notInT (hu65 hr))).or (op_notInC (hu64 hr))) (gs_notInC hC) ha hb hm
theorem c_in (hr : Room k X.A) (hC : COk X c) (ha : DP X c E a p) (hb : DP X c E b q) (hm : behindInMarks .In b = false := by rfl) : DE X c E (.Compare a [.In] [b] pos) (op2 (blO dIn) p q) := de_cmp (((op_inD (hu65 hr)).or (op_inT (hu65 hr))).or (op_inC (hu64 hr))) (gs_inC hC) ha hb hm
theorem c_notIn (hr : Room k X.A) (hC : COk X c) (ha : DP X c E a p) (hb : DP X c E b q) (hm : behindInMarks .NotIn b = false := by rfl) : DE X c E (.Compare a [.NotIn] [b] pos) (op2 (blO dNotIn) p q) := de_cmp (((op_notInD (hu65 hr)).or (op_notInT (hu65 hr))).or (op_notInC (hu64 hr))) (gs_notInC hC) ha hb hm
theorem b_len {e : Expr} {ps : List Pk} {p : Pos} (hC : COk X c) (hm : X.mg "len" = none) (ha : DPs X c E [e] ps) (hg : Gl X "len" := by rfl) (hs : starEach [e] X.env = (false, eval e X.env) :: starEach [] X.env := by rfl) (hpl : (backTo pos (starEach [] X.env)).any (·.1) = false := by rfl) : DE X c E (.Call (.Name "len" p) [e] [] pos) (opN dLen ps) :=
  de_opN (gs_lenC hC) ha fun h => pe_callB (call_len.or call_lenC) hg hm PySem.boot_len h (by decide) (by decide) hs hpl
end
/-! ### {}, {k: v} -/
def fDic0 : EF := fun ρ => .ok (true, .dic [] [], ρ)
section
variable {X : Cx} {c : Cc} {E : XK} {pos : Pos}
theorem de_dic0 (hC : COk X c) : DE X c E (.Dict [] [] pos) fDic0 := by
  refine ⟨pe_imp pe_dnewC fun σ H Q ⟨ρ, Z, B, r0, h⟩ p np => ?_⟩
  obtain ⟨k1, k2⟩ := r0.new (fr := true) (v := .ref p) (d := .dic [] []) (H' := upd H p (DkO X.prog X.w p [] ob0)) ⟨same_new np, p, _, _, rfl, np, .dicK (kvs := []) (ob := ob0) (by rw [hC.2.1, hC.2.2]; exact upd_same) rfl, .nil⟩
  exact h _ _ k1 k2
def fDic1 (leaf : Bool) (fk fv : EF) : EF := fun ρ => (fk ρ).bind fun a => (fv a.2.2).bind fun b => if (if leaf then a.2.1.isLf else a.2.1.isTk) then .ok (true, .dic [a.2.1] [b.2.1], b.2.2) else .bad
theorem de_dic1 {k v : Expr} {tk tv : EF} {n : Nat} (leaf : Bool) (hr : Room n X.A) (hC : COk X c) (hk : DE X c E k tk) (hv : DE X c E v tv) : DE X c E (.Dict [some k] [v] pos) (fDic1 leaf tk tv) := by
  have main : PE X (.Dict [some k] [v] pos) (tDisp1 X leaf (liftE c E tk) (liftE c E tv)) := by
    cases leaf with
    | true => exact pe_disp1K hk.pe hv.pe
    | false => exact pe_disp1T (hu64 hr) hk.pe hv.pe
  refine ⟨pe_imp main fun σ H Q ⟨ρ, Z, B, r0, h⟩ p np => ?_⟩
  have r1 := r0.more (same_new (o := DkO X.prog X.w p [] ob0) np) np (by rw [upd_same]; exact fun z => nomatch z)
  have np' : ¬ Own σ ρ p := fun z => by obtain ⟨u, e, _⟩ := r0.ownL z; rw [np] at e; cases e
  have bp : B p = none := by
    cases q : B p with
    | none => rfl
    | some o => have := r0.base p o q; rw [np] at this; cases this
  refine ⟨ρ, fun b => Z b ∨ b = p, _, r1.strong, O.sat_then (o := tk ρ) h (fun a ha y H1 r2 v1 => ?_) fun kk dd ρ' hx cls od H' rr xx => ?_⟩
  case refine_2 =>
    refine hx cls od H' ((rr.weak r1.hull_le).less fun b z => .inl z) ?_
    obtain ⟨C, dd, v, k1, k2, k3, k4, k5⟩ := xx
    exact ⟨C, dd, v, k1, k2, k3, k4, k5.avoid fun b z => .inl (z.imp .inl id)⟩
  refine ⟨a.2.2, fun b => Z b ∨ b = p, _, r2.strong, O.sat_then ha (fun b hb v H2 r3 v2 => ?_) fun kk dd ρ' hx cls od H' rr xx => ?_⟩
  case refine_2 =>
    refine hx cls od H' (((rr.weak r2.hull_le).weak r1.hull_le).less fun b z => .inl z) ?_
    obtain ⟨C, dd, v, k1, k2, k3, k4, k5⟩ := xx
    exact ⟨C, dd, v, k1, k2, k3, k4, k5.avoid fun b z => .inl (z.imp .inl id)⟩
  have hp1 : H1 p = some (DkO X.prog X.w p [] ob0) := r2.base p _ (by rw [hull_not np']; exact upd_same)
  have op2 : ¬ Own σ a.2.2 p := fun z => (r2.ownB z).2 (.inr rfl)
  have hp2 : H2 p = some (DkO X.prog X.w p [] ob0) := r3.base p _ (by rw [hull_not op2]; exact hp1)
  have op3 : ¬ Own σ b.2.2 p := fun z => (r3.ownB z).2 (.inr rfl)
  refine ⟨hp2, ?_⟩
  have vk : Rep c (Av σ b.2.2 fun b => Z b ∨ b = p) H2 y a.2.1 := r2.keepV r3 v1.rep
  have vv : Rep c (Av σ b.2.2 fun b => Z b ∨ b = p) H2 v b.2.1 := v2.rep
  have rw3 := (r3.weak r2.hull_le).weak r1.hull_le
  by_cases hg : (if leaf then a.2.1.isLf else a.2.1.isTk) = true
  case neg => rw [if_neg hg] at hb; exact hb.elim
  rw [if_pos hg] at hb
  have fin : ∀ (u' : HO) (ys : List V) (ds : List D), Cell c (upd H2 p u') p (.dic [a.2.1] [b.2.1]) ys ds → RepL c (Av σ b.2.2 fun b => Z b ∨ b = p) H2 ys ds → Q (.ref p) (upd H2 p u') := fun u' ys ds hc hr => by
    have kb : But (· = p) H2 (upd H2 p u') := but_upd hp2
    have kw : ∀ b, b = p → ∃ u, H2 b = some u ∧ Cl u := fun b z => ⟨DkO X.prog X.w p [] ob0, by rw [z]; exact hp2, by exact trivial⟩
    have ka : ∀ x, x = p → Av σ b.2.2 (fun b => Z b ∨ b = p) x := fun x z => .inl (.inr z)
    have bp2 : hull σ ρ (upd H p (DkO X.prog X.w p [] ob0)) p ≠ none := by rw [hull_not np', upd_same]; exact fun z => nomatch z
    have rB : R c σ (upd H2 p u') b.2.2 (fun b => Z b ∨ b = p) B := by
      refine rw3.otherC (.inr rfl) hp2 (by exact trivial) bp kb upd_same
    refine hb _ _ (rB.less fun b z => .inl z) ⟨p, ds, ys, rfl, hc, ?_, fun z => r0.zd p z np, op3, bp, rB⟩
    exact RepL.but kb kw ka hr
  cases leaf with
  | true =>
    obtain ⟨l, el⟩ := isLf_lf hg
    refine .inl ⟨rfl, l, leaf_of vk el, fun ob' => fin _ [v] [b.2.1] (.dicK (kvs := [(l, v)]) (ob := ob') (by rw [hC.2.1, hC.2.2]; exact upd_same) (by simp [el])) (.cons vv .nil)⟩
  | false =>
    obtain ⟨kk, ek, bb, rfl, hdp, hnk⟩ := kyT_of hC vk hg
    refine .inr ⟨rfl, kk, bb, rfl, hdp, hnk, fun ob' => fin _ _ _ (.dicT (kvs := [(kk, bb, v)]) (ob := ob') (by rw [hC.2.1, hC.2.2]; exact upd_same) (by simp) (by simp [ek])) (.cons vk (.cons vv .nil))⟩
def fDic (fk fv : EF) : EF := fun ρ => (fk ρ).bind fun a => (fv a.2.2).bind fun b => if (a.2.1.isLf || a.2.1.isTk) = true then .ok (true, .dic [a.2.1] [b.2.1], b.2.2) else .bad
theorem de_dic {k v : Expr} {tk tv : EF} {n : Nat} (hr : Room n X.A) (hC : COk X c) (hk : DE X c E k tk) (hv : DE X c E v tv) : DE X c E (.Dict [some k] [v] pos) (fDic tk tv) := by
  have h1 := (de_dic1 (pos := pos) true hr hC hk hv).pe
  have h2 := (de_dic1 (pos := pos) false hr hC hk hv).pe
  refine ⟨pe_imp (pe_or' h1 h2) fun σ H Q ⟨ρ, Z, B, r0, h⟩ => ?_⟩
  by_cases ht : (match tk ρ with | .ok r => r.2.1.isLf | _ => false) = true
  · refine .inl ⟨ρ, Z, B, r0, ?_⟩
    have e : fDic tk tv ρ = fDic1 true tk tv ρ := by
      unfold fDic fDic1
      cases q : tk ρ with
      | ok a =>
        rw [q] at ht
        have ht : a.2.1.isLf = true := ht
        show (tv a.2.2).bind _ = (tv a.2.2).bind _
        rw [ht]
        rfl
      | ex _ _ _ => rfl
      | bad => rfl
    rw [← e]
    exact h
  · refine .inr ⟨ρ, Z, B, r0, ?_⟩
    have e : fDic tk tv ρ = fDic1 false tk tv ρ := by
      unfold fDic fDic1
      cases q : tk ρ with
      | ok a =>
        rw [q] at ht
        have ht : a.2.1.isLf = false := by simpa using ht
        show (tv a.2.2).bind _ = (tv a.2.2).bind _
        rw [ht]
        rfl
      | ex _ _ _ => rfl
      | bad => rfl
    rw [← e]
    exact h
end
end U
namespace U
set_option autoImplicit false
open PySem PySem.Spec PyProof.Rows L2

/-! ### methods that read a dict -/
abbrev DMG := List D → List D → List D → Option (Bool × D)
def GSD (X : Cx) (c : Cc) (g : DMG) (r : V → List V → Hp → VK → Prop) : Prop := ∀ (A : Addr → Prop) (H : Hp) (a : Addr) (ks vs : List D) (xs : List V) (ds : List D) (fr : Bool) (d : D) (Q : VK), DicRep c A H a ks vs → RepL c A H xs ds → g ks vs ds = some (fr, d) →
  (∀ v H', New c A H H' fr v d → Q v H') → r (.ref a) xs H Q
def fDM (g : DMG) (p : Pk) (fs : List EF) : EF := fun ρ => (p.ev ρ).bind fun a => match p.get a.1 a.2 with
  | some (.dic _ _) => (evA fs a.2).bind fun b => match p.get a.1 b.2 with
    | some (.dic ks vs) => match g ks vs b.1 with
      | some r => .ok (r.1, r.2, b.2)
      | none => .bad
    | _ => .bad
  | _ => .bad
def mGet2 : DMG := fun ks vs ds => match ds with
  | [k, x] => if dKd ks k then some (false, (dLook ks vs k).getD x) else none
  | _ => none
section
variable {X : Cx} {c : Cc} {E : XK} {o e : Expr} {es : List Expr} {p : Pk} {fs : List EF} {g : DMG} {r : V → List V → Hp → VK → Prop} {name : Str} {apos cpos : Pos} {id : String}
theorem lift_dm (hC : COk X c) (hr : GSD X c g r) {σ : St} {H : Hp} {Q : VK} (h : liftE c E (fDM g p fs) σ H Q) : tDM X r (liftP c E p) (liftA c E fs) σ H Q := by
  obtain ⟨ρ, Z, B, r0, h⟩ := h
  refine ⟨ρ, Z, B, r0, O.sat_then (o := p.ev ρ) h (fun a ha v1 H1 r1 pv1 => ?_) fun _ _ _ h => h⟩
  split at ha
  case h_2 => exact ha.elim
  rename_i ks0 vs0 e0
  obtain ⟨a0, rfl, hd0⟩ := repT_dic (pv1.fin r1 e0)
  refine ⟨⟨a0, _, rfl, isDic_of hC hd0⟩, a.2, Z, hull σ a.2 H1, r1.strong, O.sat_then (o := evA fs a.2) ha (fun b hb vs H2 r2 pv2 => ?_) fun _ _ _ h => XW.weak r1.hull_le h⟩
  split at hb
  case h_2 => exact hb.elim
  rename_i ks vs1 e1
  split at hb
  case h_2 => exact hb.elim
  rename_i w hg
  obtain ⟨a1, ea, hd⟩ := repT_dic ((pv1.keep r1 r2).fin r2 e1)
  cases ea
  refine hr (Av σ b.2 Z) H2 a0 ks vs1 vs b.1 w.1 w.2 Q hd pv2 hg fun v H' n => ?_
  obtain ⟨k1, k2⟩ := (r2.weak r1.hull_le).new n
  exact hb v H' k1 k2
theorem de_dm (hC : COk X c) (hr : GSD X c g r) (hm : MtR X id r) (slot : Slot "dict" name id) (hty : typeOf (.builtin id) = pure (.type "method_descriptor")) (ho : DP X c E o p) (ha : DA X c E (e :: es) fs)
    (hbase : attributeBase o name X.env (eval o X.env) = eval o X.env := by rfl)
    (hfew : ((backTo cpos (starEach (e :: es) X.env)).all (fun x => !x.1) && (backToKw cpos (keywordEach [] X.env)).all (fun x => x.1.isSome)
      && decide ((e :: es).length + ([] : List Keyword).length + (if ([] : List Keyword).isEmpty then 0 else 1) < 30)) = true := by rfl)
    (hline : (apos.endLine == cpos.line) = true := by rfl) (hs : starEach (e :: es) X.env = (false, eval e X.env) :: starEach es X.env := by rfl) (hplain : (backTo cpos (starEach es X.env)).any (·.1) = false := by rfl) :
    DE X c E (.Call (.Attribute o name apos) (e :: es) [] cpos) (fDM g p fs) :=
  ⟨pe_imp (pe_dm slot hty hm ho.pe ha.pa hbase hfew hline hs hplain) fun _ _ _ h => lift_dm hC hr h⟩
theorem gs_get2 (hC : COk X c) : GSD X c mGet2 (rGet2 X) := by
  intro A H a ks vs xs ds fr d Q hd hx e k
  unfold mGet2 at e
  split at e
  case h_2 => cases e
  rename_i kd xd
  split at e
  case isFalse => cases e
  rename_i hk
  cases e
  cases hx with
  | cons h1 hx =>
    cases hx with
    | cons h2 hx =>
      cases hx
      obtain ⟨o, g, hl⟩ := dlk_of hC hd h1 hk
      refine ⟨a, _, _, o, rfl, rfl, g, k _ _ (new_self ?_)⟩
      cases q : dLook ks vs kd with
      | none => rw [q] at hl; rw [hl]; exact h2
      | some z => rw [q] at hl; obtain ⟨v, rfl, hv⟩ := hl; exact hv
theorem m_get2 {n : Nat} {f : Expr} {g1 g2 : EF} (hr : Room n X.A) (hC : COk X c) (ho : DP X c E o p) (ha : DA X c E [e, f] [g1, g2])
    (hbase : attributeBase o ("get" : Str) X.env (eval o X.env) = eval o X.env := by rfl)
    (hfew : ((backTo cpos (starEach [e, f] X.env)).all (fun x => !x.1) && (backToKw cpos (keywordEach [] X.env)).all (fun x => x.1.isSome)
      && decide (([e, f] : List Expr).length + ([] : List Keyword).length + (if ([] : List Keyword).isEmpty then 0 else 1) < 30)) = true := by rfl)
    (hline : (apos.endLine == cpos.line) = true := by rfl) (hs : starEach [e, f] X.env = (false, eval e X.env) :: starEach [f] X.env := by rfl) (hplain : (backTo cpos (starEach [f] X.env)).any (·.1) = false := by rfl) :
    DE X c E (.Call (.Attribute o "get" apos) [e, f] [] cpos) (fDM mGet2 p [g1, g2]) :=
  de_dm hC (gs_get2 hC) (mt_get2 (hu64 hr)) PySem.F.slot_dict_get PySem.F.type_dict_get ho ha hbase hfew hline hs hplain
end

/-! ### setdefault of a dict that a slot owns -/
def fSetd (i : Nat) (fs : List EF) : EF := fun ρ => match ρ[i]? with
  | some (some (true, .dic _ _)) => (evA fs ρ).bind fun a => match a.2[i]?, a.1 with
    | some (some (true, .dic ks vs)), [k, x] => match dSto ks vs k x with
      | some r => match dLook ks vs k with
        | some z => .ok (false, z, a.2)
        | none => .ok (false, x, a.2.set i (some (true, .dic r.1 r.2)))
      | none => .bad
    | _, _ => .bad
  | _ => .bad
section
variable {X : Cx} {c : Cc} {E : XK} {o e f : Expr} {i : Nat} {fs : List EF} {apos cpos : Pos}
theorem lift_setd (hC : COk X c) {σ : St} {H : Hp} {Q : VK} (h : liftE c E (fSetd i fs) σ H Q) : tDM X (rSetd X) (tVar i) (liftA c E fs) σ H Q := by
  obtain ⟨ρ, Z, B, r0, h⟩ := h
  unfold fSetd at h
  split at h
  case h_2 => exact h.elim
  rename_i ks0 vs0 hi
  obtain ⟨a, ds, xs, h2, hc, h4, h5, h6⟩ := r0.own i _ hi
  refine ⟨.ref a, h2, ⟨a, _, rfl, isDic_of hC (cell_dic hc h4)⟩, ρ, Z, B, r0, O.sat_then (o := evA fs ρ) h (fun a1 ha vs H1 r1 pv1 => ?_) fun _ _ _ h => h⟩
  split at ha
  case h_2 => exact ha.elim
  rename_i ks vs1 kd xd hi1 e1
  split at ha
  case h_2 => exact ha.elim
  rename_i w hs
  obtain ⟨ks', vs'⟩ := w
  obtain ⟨a', ds', xs', k2, kc, k4, k5, k6⟩ := r1.own i _ hi1
  rw [h2] at k2
  cases k2
  rw [e1] at pv1
  cases pv1 with
  | @cons y _ _ _ p1 pv1 =>
    cases pv1 with
    | @cons z _ _ _ p2 pv1 =>
      cases pv1
      obtain ⟨ys, es', hrep, _, hset⟩ := dpt_of hC (cell_dic kc k4) p1 p2 hs
      refine ⟨a, y, z, rfl, rfl, hset Q (fun zz ww hz hw => ?_) fun hn u' hcell => ?_⟩
      · rw [hz] at ha
        exact ha ww _ r1 hw
      · rw [hn] at ha
        obtain ⟨l1, l2⟩ := r1.rewriteC hi1 h2 hcell hrep
        exact ha z _ l1 (l2 z xd p2)
theorem m_setd {n : Nat} {g1 g2 : EF} (hr : Room n X.A) (hC : COk X c) (hv : PE X o (tVar i)) (ha : DA X c E [e, f] [g1, g2])
    (hbase : attributeBase o ("setdefault" : Str) X.env (eval o X.env) = eval o X.env := by rfl)
    (hfew : ((backTo cpos (starEach [e, f] X.env)).all (fun x => !x.1) && (backToKw cpos (keywordEach [] X.env)).all (fun x => x.1.isSome)
      && decide (([e, f] : List Expr).length + ([] : List Keyword).length + (if ([] : List Keyword).isEmpty then 0 else 1) < 30)) = true := by rfl)
    (hline : (apos.endLine == cpos.line) = true := by rfl) (hs : starEach [e, f] X.env = (false, eval e X.env) :: starEach [f] X.env := by rfl) (hplain : (backTo cpos (starEach [f] X.env)).any (·.1) = false := by rfl) :
    DE X c E (.Call (.Attribute o "setdefault" apos) [e, f] [] cpos) (fSetd i [g1, g2]) :=
  ⟨pe_imp (pe_dm PySem.F.slot_dict_setdefault PySem.F.type_dict_setdefault (mt_setd (hu64 hr)) hv ha.pa hbase hfew hline hs hplain) fun _ _ _ h => lift_setd hC h⟩
end

/-! ### d[k] = v -/
def sDx (i : Nat) (fi f : EF) : SF := fun ρ => (f ρ).bind fun r => match r.2.2[i]? with
  | some (some (true, .dic _ _)) => (fi r.2.2).bind fun s => match s.2.2[i]? with
    | some (some (true, .dic ks vs)) => match dSto ks vs s.2.1 r.2.1 with
      | some w => .ok (.nx, s.2.2.set i (some (true, .dic w.1 w.2)))
      | none => .bad
    | _ => .bad
  | _ => .bad
section
variable {X : Cx} {c : Cc} {pr : Bool} {E : XK} {o e ei : Expr} {f fi : EF} {pos pos' : Pos} {i : Nat}
theorem ds_dx {n : Nat} (hr : Room n X.A) (hC : COk X c) (he : DE X c E e f) (hv : PE X o (tVar i)) (hi : DE X c E ei fi) (hs : swapsWithSole [.Subscript o ei pos'] e pos.line X.env = pure false := by rfl) (hw : swappedStores [.Subscript o ei pos'] e X.env = pure none := by rfl)
    (h1 : (assignEach [.Subscript o ei pos'] X.env).map (·.2) = [assign (.Subscript o ei pos') X.env] := by rfl)
    (ha : ∀ v, assign (.Subscript o ei pos') X.env v = (do
      let ov ← holding [v] (eval o X.env)
      let iv ← holding [v, ov] (eval ei X.env)
      standAt pos'
      holding [v, ov, iv] (setItem ov iv v)
      release [v, ov, iv] []) := by intro _; rfl) : DS X c pr E (.Assign [.Subscript o ei pos'] e pos) (sDx i fi f) := by
  refine ⟨ps_imp (ps_asg he.pe (pg_sub hv hi.pe (set_dic (hu64 hr)) ha) hs hw h1) fun T σ H ⟨ρ, Z, B, r0, q⟩ => ⟨ρ, Z, B, r0, O.sat_then (o := f ρ) q (fun r hr v H1 r1 v1 => ?_) fun _ _ _ h => h.xw⟩⟩
  split at hr
  case h_2 => exact hr.elim
  rename_i ks0 vs0 hi0
  obtain ⟨a, ds, xs, h2, hC0, h4, h5, h6⟩ := r1.own i _ hi0
  refine ⟨.ref a, h2, r.2.2, Z, hull σ r.2.2 H1, r1.strong, O.sat_then (o := fi r.2.2) hr (fun s hs w H2 r2 v2 => ?_) fun _ _ _ h => (h.weak r1.hull_le).xw⟩
  have rv := r1.keepV r2 v1.rep
  split at hs
  case h_2 => exact hs.elim
  rename_i ks vs hi1
  split at hs
  case h_2 => exact hs.elim
  rename_i ww hst
  obtain ⟨a', ds', xs', k2, kC, k4, k5, k6⟩ := r2.own i _ hi1
  rw [h2] at k2
  cases k2
  obtain ⟨ys, es', hrep, hdp, _⟩ := dpt_of hC (cell_dic kC k4) v2.rep rv hst
  refine ⟨a, rfl, hdp _ fun u' hcell => ?_⟩
  exact hs _ _ (fun _ => rfl) ((r2.weak r1.hull_le).rewriteC hi1 h2 hcell hrep).1
end
end U
namespace U
set_option autoImplicit false
open PySem PySem.Spec PyProof.Rows L2

/-! ### walks of a dict -/
def DVw (P : Program) (w : World) (H : Hp) (a : Addr) (ob : Obj) (kv vv : List V) : Prop :=
  (∃ kvs : List (L2.Key × V), H a = some (DkO P w a kvs ob) ∧ kv = kvs.map (fun p => kV p.1) ∧ vv = kvs.map (·.2)) ∨
  ∃ kvs : List (NestedKey × Addr × V), H a = some (DtO P w a kvs ob) ∧ kv = kvs.map (fun p => V.ref p.2.1) ∧ vv = kvs.map (·.2.2)
def EsV (es : Array DictEntry) (kv vv : List V) : Prop := es.size = kv.length ∧ es.size = vv.length ∧ ∀ i (hi : i < es.size), ∃ k v, kv[i]? = some k ∧ vv[i]? = some v ∧ RelV k es[i].key ∧ RelV v es[i].val
theorem mix_rel {P : Program} {w : World} {k : L2.Key} {u : Value} (h : (mixKind P w).is k u = true) : RelV (kV k) u := by
  rcases keyIs_shape (show keyIs k u = true from h) with ⟨i, t, rfl, rfl⟩ | ⟨x, t, rfl, rfl⟩
  · exact ⟨t, rfl⟩
  · exact ⟨t, rfl⟩
theorem pairs_esv {P : Program} {w : World} : ∀ {es : List DictEntry} {vs : List (L2.Key × Value)} {kvs : List (L2.Key × V)}, Pairs (mixKind P w) es vs → KV kvs vs → ∀ (i : Nat) (hi : i < es.length), ∃ k v, (kvs.map fun p => kV p.1)[i]? = some k ∧ (kvs.map (·.2))[i]? = some v ∧ RelV k es[i].key ∧ RelV v es[i].val
  | [], _, _, _, _, i, hi => absurd hi (Nat.not_lt_zero _)
  | e :: es, _, _, .cons h1 h2 ht, .cons hr hrt, 0, _ => by
    refine ⟨_, _, rfl, rfl, ?_, ?_⟩
    · show RelV (kV _) e.key
      rw [hr.1]
      exact mix_rel h1
    · show RelV _ e.val
      rw [h2]
      exact hr.2
  | e :: es, _, _, .cons h1 h2 ht, .cons hr hrt, i + 1, hi => by
    obtain ⟨k, v, a1, a2, a3, a4⟩ := pairs_esv ht hrt i (by simpa using hi)
    exact ⟨k, v, by simpa using a1, by simpa using a2, a3, a4⟩
theorem ents_esv {P : Program} {w : World} : ∀ {xs : List (NestedKey × Addr × Value)} {kvs : List (NestedKey × Addr × V)}, KW kvs xs → ∀ (i : Nat) (hi : i < (xs.map (entryOfKey (nestedKind P w))).length), ∃ k v, (kvs.map fun p => V.ref p.2.1)[i]? = some k ∧ (kvs.map (·.2.2))[i]? = some v ∧ RelV k (xs.map (entryOfKey (nestedKind P w)))[i].key ∧ RelV v (xs.map (entryOfKey (nestedKind P w)))[i].val
  | [], _, _, i, hi => absurd hi (Nat.not_lt_zero _)
  | x :: xs, _, .cons hr hrt, 0, _ => ⟨_, _, rfl, rfl, by show RelV (.ref _) (.ref _); rw [hr.2.1]; rfl, hr.2.2⟩
  | x :: xs, _, .cons hr hrt, i + 1, hi => by
    obtain ⟨k, v, a1, a2, a3, a4⟩ := ents_esv (P := P) (w := w) hrt i (by simpa using hi)
    exact ⟨k, v, by simpa using a1, by simpa using a2, a3, a4⟩
section
variable {X : Cx} {pins : List (Addr × Obj)} {σ : St} {H : Hp} {s : Shared} {a : Addr} {ob : Obj} {kv vv : List V}
theorem dvw_at (I : Inv X pins σ H s) (h : DVw X.prog X.w H a ob kv vv) : ∃ es ep, s.heap.get? a = some ob ∧ ob.ExactDict ∧ ob.data = .dict es ep ∧ (a == sysModules) = false ∧ es.size ≤ sizeLine ∧ EsV es kv vv := by
  rcases h with ⟨kvs, h, rfl, rfl⟩ | ⟨kvs, h, rfl, rfl⟩
  · obtain ⟨h0, h1, h2, vs, r, o, es, ep, h4, h5, h6, h7, h8, h9⟩ := (I.hok a _ h).1
    rw [h0] at h4
    cases h4
    have hl := h8.length
    rw [Array.length_toList] at hl
    have hl2 := r.length
    refine ⟨es, ep, h0, h5, h6, h2, by omega, by rw [List.length_map]; omega, by rw [List.length_map]; omega, fun i hi => ?_⟩
    obtain ⟨k, v, a1, a2, a3, a4⟩ := pairs_esv h8 r i (by rw [Array.length_toList]; exact hi)
    exact ⟨k, v, a1, a2, by simpa using a3, by simpa using a4⟩
  · obtain ⟨h0, h1, h2, h3, xs, r, o, es, ep, h4, h5, h6, h7, h8⟩ := (I.hok a _ h).1
    rw [h0] at h4
    cases h4
    have hl := congrArg List.length h7
    rw [Array.length_toList, List.length_map] at hl
    have hl2 : kvs.length = xs.length := Paired.length r
    refine ⟨es, ep, h0, h5, h6, h2, by omega, by rw [List.length_map]; omega, by rw [List.length_map]; omega, fun i hi => ?_⟩
    obtain ⟨k, v, a1, a2, a3, a4⟩ := ents_esv (P := X.prog) (w := X.w) r i (by rw [List.length_map, ← hl]; exact hi)
    have e : es[i] = (xs.map (entryOfKey (nestedKind X.prog X.w)))[i]'(by rw [List.length_map, ← hl]; exact hi) := by
      have : es.toList[i]'(by rw [Array.length_toList]; exact hi) = (xs.map (entryOfKey (nestedKind X.prog X.w)))[i]'(by rw [List.length_map, ← hl]; exact hi) := by
        simp only [h7]
      rw [← this]
      simp
    rw [e]
    exact ⟨k, v, a1, a2, a3, a4⟩
theorem dvw_raw {es : Array DictEntry} {ep : Nat} (I : Inv X pins σ H s) (h : DVw X.prog X.w H a ob kv vv) (hd : ob.data = .dict es ep) : s.heap.DictRaw a es ep ∧ (a == sysModules) = false ∧ es.size ≤ sizeLine ∧ EsV es kv vv := by
  obtain ⟨es', ep', h1, h2, h3, h4, h5, h6⟩ := dvw_at I h
  rw [hd] at h3
  cases h3
  exact ⟨⟨ob, h1, h2, hd⟩, h4, h5, h6⟩
end
/-- the keys, the values of a dict that doesn't change -/
def ItK (P : Program) (w : World) (a : Addr) (ob : Obj) (n : Nat) : It :=
  ⟨fun i H => (∃ kv vv, DVw P w H a ob kv vv) ∧ i < n, fun i H v H' => H' = H ∧ ∀ kv vv, DVw P w H a ob kv vv → kv[i]? = some v, fun i H => (∃ kv vv, DVw P w H a ob kv vv) ∧ n ≤ i⟩
theorem turn_dkeys {P : Program} {w : World} {K : PySem.W.Frag} {tg : Expr} (a it : Addr) {ob : Obj} {es : Array DictEntry} {ep : Nat} (hd : ob.data = .dict es ep) : Turn P w K tg (ItK P w a ob es.size) [it] it (fun i h => h.IsKeyIter it a i es.size ep) where
  mem := by simp
  obj := fun i h st b hb => by
    have e : b = it := by simpa using hb
    subst e
    obtain ⟨o, e, c, d⟩ := st
    exact ⟨o, e, fun v z => by rw [d] at z; cases z⟩
  keep := fun i h h' st k => by
    obtain ⟨o, e, c, d⟩ := st
    exact ⟨o, k it (by simp) o e, c, d⟩
  item := by
    intro X hP hw hK hc i pins s σ H E I hf st hg
    subst hP hw hK
    obtain ⟨⟨kv, vv, hv⟩, hi⟩ := hg
    obtain ⟨hr, hs, hz, e1, e2, e3⟩ := dvw_raw I hv hd
    obtain ⟨f0, f1, f2, f3, f4, f5⟩ := hf it (by simp)
    obtain ⟨k, v, g1, g2, g3, g4⟩ := e3 i hi
    refine wpAny_pyNext_keys_item_raw st hr hi fun h' st' sb => ?_
    have I1 : Inv X pins σ H { s with heap := h' } := I.turned (t' := s.toks) (fun b o hb e => (sb.2 b hb).trans e) f0 f1 f3 f4 f5
    obtain ⟨o, e, c, d⟩ := id st'
    refine ⟨es[i].key, rfl, go_of (s := { s with heap := h' }) e c d (by decide) ⟨k, H, I1, g3, ⟨rfl, fun kv' vv' hv' => ?_⟩, st', fun b hb => (hf b hb).1⟩⟩
    obtain ⟨_, _, _, _, _, e3'⟩ := dvw_raw I hv' hd
    obtain ⟨k', v', g1', g2', g3', g4'⟩ := e3' i hi
    rw [g1', RelV.inj g3' g3]
  done := by
    intro X hP hw hK hc i pins s σ H E I hf st hg
    subst hP hw hK
    obtain ⟨⟨kv, vv, hv⟩, hi⟩ := hg
    obtain ⟨hr, hs, hz, e1, e2, e3⟩ := dvw_raw I hv hd
    obtain ⟨f0, f1, f2, f3, f4, f5⟩ := hf it (by simp)
    exact wpAny_pyNext_keys_end_raw (I.ok.hd hc) st hr hi fun h' eb => ⟨rfl, I.turned (t' := s.toks) (fun b o hb e => eb b o hb e) f0 f1 f3 f4 f5⟩
  self := fun A i s Q E st h => by
    obtain ⟨o, e, c, d⟩ := st
    exact wpAny_pyIter_keyiter ⟨o, e, c, d⟩ h
theorem walk_dkeys {P : Program} {w : World} {a : Addr} {ob : Obj} {kv vv : List V} {n : Nat} (hn : n = kv.length) : Walk (ItK P w a ob n) n (fun H => DVw P w H a ob kv vv) (YAt kv) :=
  ⟨fun i _ hi q => ⟨⟨kv, vv, q⟩, hi⟩, fun _ q => ⟨⟨kv, vv, q⟩, Nat.le_refl _⟩, fun _ _ _ _ _ q y => ⟨y.1, y.2 kv vv q⟩⟩
def iDk (X : Cx) (te : TE) : TI := fun σ H R => te σ H fun x H1 => ∃ a ob kv vv, x = .ref a ∧ DVw X.prog X.w H1 a ob kv vv ∧ R (ItK X.prog X.w a ob kv.length) H1
theorem pi_dkeys {X : Cx} {tg e : Expr} {te : TE} (he : PE X e te) : PI X tg e (iDk X te) := by
  refine ⟨fun pins s σ H R I h => ?_⟩
  refine thn (he.run pins s σ H _ I h) fun v s1 ⟨x, H1, I1, r1, q1⟩ => ?_
  obtain ⟨a, ob, kv, vv, e, hv, q⟩ := q1
  subst e
  cases (show v = Value.ref a from r1)
  obtain ⟨es, ep, h1, h2, h3, h4, h5, h6⟩ := dvw_at I1 hv
  refine wpAny_pyIter_dict_raw h4 ⟨ob, h1, h2, h3⟩ ?_
  rw [← h6.1] at q
  refine ⟨s1.heap.objs.size, [s1.heap.objs.size], _, _, H1, rfl, I1.kept (t' := s1.toks) fun b o e => Heap.get?_push_of_some _ e, turn_dkeys a _ h3, ⟨_, Heap.get?_push_size _ rfl, rfl, rfl⟩, fun b hb => ?_, q⟩
  have e : b = s1.heap.objs.size := by simpa using hb
  subst e
  exact I1.fpOk (Nat.le_refl _) (I1.hok.fresh (Nat.le_refl _))
end U
namespace U
set_option autoImplicit false
open PySem PySem.Spec PyProof.Rows L2

/-! ### for k in d; list(d) -/
theorem lfs_rep {c : Cc} {A : Addr → Prop} {H : Hp} : ∀ {kvs : List (L2.Key × V)} {ks : List D}, ks.map D.lf = kvs.map (fun p => some p.1) → RepL c A H (kvs.map fun p => kV p.1) ks
  | [], ks, e => by
    cases ks with
    | nil => exact .nil
    | cons _ _ => cases e
  | p :: kvs, ks, e => by
    cases ks with
    | nil => cases e
    | cons k ks =>
      rw [List.map_cons, List.map_cons] at e
      injection e with e1 e2
      rw [List.map_cons]
      refine .cons ?_ (lfs_rep e2)
      cases k <;> first | (cases e1; done) | skip
      · have : p.1 = .inl _ := (Option.some.inj e1).symm
        rw [this]; exact .int _
      · have : p.1 = .inr _ := (Option.some.inj e1).symm
        rw [this]; exact .str _
section
variable {X : Cx} {c : Cc} {A : Addr → Prop} {H : Hp} {a : Addr} {ks vs : List D}
theorem dvw_of (hC : COk X c) (h : DicRep c A H a ks vs) : ∃ ob kv vv, DVw X.prog X.w H a ob kv vv ∧ RepL c A H kv ks ∧ RepL c A H vv vs := by
  rcases h with ⟨kvs, ob, h1, h2, h3⟩ | ⟨kvs, ob, h1, hne, h2, h3, h4⟩
  · rw [hC.2.1, hC.2.2] at h1
    exact ⟨ob, _, _, .inl ⟨kvs, h1, rfl, rfl⟩, lfs_rep h2, h3⟩
  · rw [hC.2.1, hC.2.2] at h1
    exact ⟨ob, _, _, .inr ⟨kvs, h1, rfl, rfl⟩, h3, h4⟩
end
def seqI : D → Option (List D)
  | .dic ks _ => some ks
  | d => seqOf d
def fIt (f : EF) : IF := fun ρ => (f ρ).bind fun r => match seqI r.2.1 with
  | some ds => .ok (ds, r.2.2)
  | none => .bad
def D.isDic : D → Bool
  | .dic _ _ => true
  | _ => false
section
variable {X : Cx} {c : Cc} {E : XK} {tg e : Expr} {f : EF}
theorem hull_dvw {P : Program} {w : World} {σ : St} {H H2 : Hp} {ρ : En} {Z : Addr → Prop} {a : Addr} {ob : Obj} {kv vv : List V} (s : ∀ b o, hull σ ρ H b = some o → H2 b = some o) (hn : ¬ Av σ ρ Z a) (h : DVw P w H a ob kv vv) : DVw P w H2 a ob kv vv := by
  have key : ∀ u, H a = some u → H2 a = some u := fun u e => s _ _ (by rw [hull_not fun z => hn (.inr z)]; exact e)
  rcases h with ⟨kvs, h1, h2⟩ | ⟨kvs, h1, h2⟩
  · exact .inl ⟨kvs, key _ h1, h2⟩
  · exact .inr ⟨kvs, key _ h1, h2⟩
theorem rep_dicN {A : Addr → Prop} {H : Hp} {v : V} {ks vs : List D} (h : Rep c A H v (.dic ks vs)) : ∃ a, v = .ref a ∧ ¬ A a ∧ DicRep c A H a ks vs := by
  cases h with
  | dicK h1 h2 h3 h4 => exact ⟨_, rfl, h2, .inl ⟨_, _, h1, h3, h4⟩⟩
  | dicT h1 h2 h3 h4 h5 h6 => exact ⟨_, rfl, h2, .inr ⟨_, _, h1, h3, h4, h5, h6⟩⟩
theorem di_val (hC : COk X c) (h : DE X c E e f) : DI X c E tg e (fIt f) := by
  refine ⟨pi_imp (pi_or (di_valS hC.1 h).pi (pi_dkeys h.pe)) fun σ H Rr ⟨ρ, Z, B, r0, q⟩ => ?_⟩
  unfold fIt at q
  by_cases ht : (match f ρ with | .ok r => r.2.1.isDic | _ => false) = true
  · refine .inr ⟨ρ, Z, B, r0, ?_⟩
    cases hf : f ρ with
    | ok a =>
      rw [hf] at q ht
      obtain ⟨fr, d, ρ1⟩ := a
      intro v H1 r1 v1
      dsimp only [O.bind] at q ht
      cases d with
      | dic ks vs =>
        obtain ⟨a, rfl, hn, hd⟩ := rep_dicN v1.rep
        obtain ⟨ob, kv, vv, h1, h2, h3⟩ := dvw_of hC hd
        refine ⟨a, ob, kv, vv, rfl, h1, q _ H1 r1 (iok_at (walk_dkeys rfl) (fun H2 s => hull_dvw s hn h1) h2)⟩
      | _ => cases ht
    | ex k d ρ' => rw [hf] at q; exact q
    | bad => rw [hf] at q; exact q
  · refine .inl ⟨ρ, Z, B, r0, ?_⟩
    unfold fItS
    cases hf : f ρ with
    | ok a =>
      rw [hf] at q ht
      obtain ⟨fr, d, ρ1⟩ := a
      dsimp only [O.bind] at q ht ⊢
      cases d with
      | dic ks vs => exact absurd rfl ht
      | _ => exact q
    | ex k d ρ' => rw [hf] at q; exact q
    | bad => rw [hf] at q; exact q
end
/-! ### list(d) -/
def dList : List D → Option (Bool × D)
  | [.dic ks _] => some (true, .lst ks)
  | ds => dListS ds
section
variable {X : Cx}
theorem items_rel {P : Nat → Value → Prop} {kv : List V} {acc : Array Value} {n : Nat} (hl : n = kv.length) (h : PySem.ItemsOf P acc n) (g : ∀ i v, i < n → P i v → ∃ k, kv[i]? = some k ∧ RelV k v) : Vals kv acc.toList := by
  obtain ⟨h1, h2⟩ := h
  have key : ∀ (kv : List V) (us : List Value), kv.length = us.length → (∀ (i : Nat) (u : Value), us[i]? = some u → ∃ k, kv[i]? = some k ∧ RelV k u) → Vals kv us := by
    intro kv
    induction kv with
    | nil => intro us e _; cases us with
      | nil => exact .nil
      | cons _ _ => cases e
    | cons k kv ih =>
      intro us e hh
      cases us with
      | nil => cases e
      | cons u us =>
        obtain ⟨k', e1, e2⟩ := hh 0 u rfl
        have e1 : some k = some k' := e1
        cases e1
        exact .cons e2 (ih us (by simpa using e) fun i u hu => by
          obtain ⟨k', e1, e2⟩ := hh (i + 1) u (by simpa using hu)
          exact ⟨k', by simpa using e1, e2⟩)
  refine key kv _ (hl.symm.trans (h1.symm.trans (Array.length_toList (xs := acc)).symm)) fun i u hu => ?_
  have hi : i < n := by
    rw [← h1, ← Array.length_toList]
    exact (List.getElem?_eq_some_iff.mp hu).1
  exact g i u hi (h2 i u (by rw [← Array.getElem?_toList]; exact hu))
theorem call_listC (hcalm : X.calm = true) : CallR X (.type "list") (fun xs H Q => ∃ a ob kv vv, xs = [.ref a] ∧ DVw X.prog X.w H a ob kv vv ∧ ∀ l, H l = none → Q (.ref l) (upd H l (.lst kv))) := by
  intro pins s σ H xs us Q I r h
  obtain ⟨a, ob, kv, vv, rfl, hv, q⟩ := h
  obtain ⟨u, rfl, rx⟩ := vals1 r
  cases (show u = Value.ref a from rx)
  obtain ⟨es, ep, h1, h2, h3, h4, h5, h6⟩ := dvw_at I hv
  refine PySem.W.kdl_call (PySem.KdlSrc.rawDict (ep := ep) h4) (I.ok.hd hcalm) ⟨ob, h1, h2, h3⟩ h5 fun h' tk acc' c' hk hl hi => ?_
  have rel : Vals kv acc'.toList := items_rel h6.1 hi fun i v hi ⟨hi', e⟩ => by
    obtain ⟨k, v', g1, g2, g3, g4⟩ := h6.2.2 i hi'
    exact ⟨k, g1, by rw [e]; exact g3⟩
  have hn := I.hok.fresh (Nat.le_refl s.heap.objs.size)
  refine ⟨.ref s.heap.objs.size, _, I.laid (a := s.heap.objs.size) (o := .lst kv) (t' := tk) hk (Nat.le_refl _) ⟨by rw [← h6.1]; exact h5, acc'.toList, c', rel, by simpa using hl⟩, rfl, q _ hn⟩
/-- o.values() -/
def VwO (p a : Addr) : HO := .ext fun h => h.IsValuesView p a
def tVals (X : Cx) (to : TE) : TE := fun σ H Q => to σ H fun x H1 => ∃ a ob kv vv, x = .ref a ∧ DVw X.prog X.w H1 a ob kv vv ∧ ∀ p, H1 p = none → Q (.ref p) (upd H1 p (VwO p a))
theorem pe_vals {o : Expr} {to : TE} {apos cpos : Pos} (ho : PE X o to) (hbase : attributeBase o ("values" : Str) X.env (eval o X.env) = eval o X.env := by rfl) (hline : (apos.endLine == cpos.line) = true := by rfl) : PE X (.Call (.Attribute o "values" apos) [] [] cpos) (tVals X to) := by
  refine ⟨fun pins s σ H Q I h => ?_⟩
  refine wpAny_Call_method0_late hbase hline (thn (ho.run pins s σ H _ I h) fun v s1 ⟨x, H1, I1, r1, a, ob, kv, vv, ex, hv, q⟩ => ?_)
  subst ex
  obtain rfl : v = Value.ref a := r1
  obtain ⟨es, ep, h1, h2, h3, h4, h5, h6⟩ := dvw_at I1 hv
  have hr : s1.heap.DictRaw a es ep := ⟨ob, h1, h2, h3⟩
  refine ⟨"dict", "dict.values", PySem.F.plainAttrs_dict, PySem.F.slot_dict_values, PySem.F.type_dict_values, hr.typeIs, fun b q => ?_, Calls.callWith_builtin rfl (PySem.evalArgs_none ?_)⟩
  · cases q
    exact ⟨ob, h1, h2.2.1⟩
  · refine call_meetsIn PySem.F.slot_dict_values hr.typeIs PySem.F.entry_dict_values (PySem.F.args_dict_values_1 _) (meets_dict_values_raw a h4) ⟨⟨es, ep, hr⟩, ?_⟩
    refine ⟨.ref s1.heap.objs.size, _, I1.laid (a := s1.heap.objs.size) (o := VwO s1.heap.objs.size a) (t' := s1.toks) (fun _ _ q => Heap.get?_push_of_some _ q) (Nat.le_refl _) ?_, rfl, q _ (I1.hok.fresh (Nat.le_refl _))⟩
    have ho := Heap.get?_push_size s1.heap (o := { cls := .type "dict_values", data := .fields #[.ref a] }) rfl
    exact ⟨⟨_, ho, rfl, rfl⟩, ⟨_, ho⟩, fun h1 h2 ⟨o, p, q⟩ k => ⟨o, k _ p, q⟩⟩
theorem call_listV (hcalm : X.calm = true) : CallR X (.type "list") (fun xs H Q => ∃ p a ob kv vv, xs = [.ref p] ∧ H p = some (VwO p a) ∧ DVw X.prog X.w H a ob kv vv ∧ ∀ l, H l = none → Q (.ref l) (upd H l (.lst vv))) := by
  intro pins s σ H xs us Q I r h
  obtain ⟨p, a, ob, kv, vv, rfl, hp, hv, q⟩ := h
  obtain ⟨u, rfl, rx⟩ := vals1 r
  cases (show u = Value.ref p from rx)
  obtain ⟨es, ep, h1, h2, h3, h4, h5, h6⟩ := dvw_at I hv
  have hpv : s.heap.IsValuesView p a := (I.hok p _ hp).1
  refine PySem.W.kdl_call (PySem.KdlSrc.rawValues (ep := ep)) (I.ok.hd hcalm) ⟨hpv, ob, h1, h2, h3⟩ h5 fun h' tk acc' c' hk hl hi => ?_
  have rel : Vals vv acc'.toList := items_rel h6.2.1 hi fun i v hi ⟨hi', e⟩ => by
    obtain ⟨k, v', g1, g2, g3, g4⟩ := h6.2.2 i hi'
    exact ⟨v', g2, by rw [e]; exact g4⟩
  have hn := I.hok.fresh (Nat.le_refl s.heap.objs.size)
  refine ⟨.ref s.heap.objs.size, _, I.laid (a := s.heap.objs.size) (o := .lst vv) (t' := tk) hk (Nat.le_refl _) ⟨by rw [← h6.2.1]; exact h5, acc'.toList, c', rel, by simpa using hl⟩, rfl, q _ hn⟩
end
section
variable {X : Cx} {c : Cc} {E : XK} {e o : Expr} {ps : List Pk} {p pos apos cpos : Pos} {pk : Pk}
theorem gs_listC (hC : COk X c) : GSN c dList (fun xs H Q => (∃ p ys, xs = [.ref p] ∧ (SqL X.K H p ys ∨ SqT X.K H p ys) ∧ ∀ l, H l = none → Q (.ref l) (upd H l (.lst ys))) ∨ ∃ a ob kv vv, xs = [.ref a] ∧ DVw X.prog X.w H a ob kv vv ∧ ∀ l, H l = none → Q (.ref l) (upd H l (.lst kv))) := by
  intro A H xs ds fr d Q h1 e k
  unfold dList at e
  split at e
  · cases e
    obtain ⟨v, rfl, h⟩ := repTs1 h1
    obtain ⟨a, rfl, hd⟩ := repT_dic h
    obtain ⟨ob, kv, vv, g1, g2, g3⟩ := dvw_of hC hd
    exact .inr ⟨a, ob, kv, vv, rfl, g1, fun l nl => k _ _ (new_lst nl g2)⟩
  · exact .inl (gs_listS hC.1 A H xs ds fr d Q h1 e k)
theorem b_list (hcalm : X.calm = true) (hC : COk X c) (hm : X.mg "list" = none) (ha : DPs X c E [e] ps) (hg : Gl X "list" := by rfl) (hs : starEach [e] X.env = (false, eval e X.env) :: starEach [] X.env := by rfl) (hpl : (backTo pos (starEach [] X.env)).any (·.1) = false := by rfl) : DE X c E (.Call (.Name "list" p) [e] [] pos) (opN dList ps) :=
  de_opN (gs_listC hC) ha fun h => pe_callTy (call_list_of.or (call_listC hcalm)) hg hm (by rfl) h (by decide) (by decide) hs hpl
/-- list(o.values()) -/
def dVals : D → Option (Bool × D)
  | .dic _ vs => some (true, .lst vs)
  | _ => none
theorem b_listVals (hcalm : X.calm = true) (hC : COk X c) (hm : X.mg "list" = none) (ho : DP X c E o pk) (hg : Gl X "list" := by rfl) (hbase : attributeBase o ("values" : Str) X.env (eval o X.env) = eval o X.env := by rfl) (hline : (apos.endLine == cpos.line) = true := by rfl)
    (hs : starEach [.Call (.Attribute o "values" apos) [] [] cpos] X.env = (false, eval (.Call (.Attribute o "values" apos) [] [] cpos) X.env) :: starEach [] X.env := by rfl) (hpl : (backTo pos (starEach [] X.env)).any (·.1) = false := by rfl) :
    DE X c E (.Call (.Name "list" p) [.Call (.Attribute o "values" apos) [] [] cpos] [] pos) (op1 dVals pk) := by
  refine ⟨pe_imp (pe_callTy (call_listV hcalm) hg hm (by rfl) (pa_cons (pe_vals ho.pe hbase hline) pa_nil hs) (by decide) (by decide) hs hpl) fun σ H Q ⟨ρ, Z, B, r0, h⟩ => ?_⟩
  refine ⟨ρ, Z, B, r0, O.sat_then (o := pk.ev ρ) h (fun a ha v1 H1 r1 pv1 => ?_) fun _ _ _ h => h⟩
  split at ha
  case h_2 => exact ha.elim
  rename_i x e1
  split at ha
  case h_2 => exact ha.elim
  rename_i w e2
  unfold dVals at e2
  split at e2
  case h_2 => cases e2
  rename_i ks vs
  cases e2
  obtain ⟨a0, rfl, hd⟩ := repT_dic (pv1.fin r1 e1)
  obtain ⟨ob, kv, vv, g1, g2, g3⟩ := dvw_of hC hd
  refine ⟨a0, ob, kv, vv, rfl, g1, fun p np => ⟨p, a0, ob, kv, vv, rfl, upd_same, ?_, fun l nl => ?_⟩⟩
  · have key : ∀ u, H1 a0 = some u → upd H1 p (VwO p a0) a0 = some u := fun u e => by rw [upd_ne (ne_of_none e np)]; exact e
    rcases g1 with ⟨kvs, h1, h2⟩ | ⟨kvs, h1, h2⟩
    · exact .inl ⟨kvs, key _ h1, h2⟩
    · exact .inr ⟨kvs, key _ h1, h2⟩
  · have s1 : Same H1 (upd H1 p (VwO p a0)) := same_new np
    have nl1 : H1 l = none := Same.free s1 nl
    have s2 : Same H1 (upd (upd H1 p (VwO p a0)) l (.lst vv)) := fun b o e => by
      have := s1 b o e
      rw [upd_ne (ne_of_none this nl)]; exact this
    obtain ⟨k1, k2⟩ := r1.new (fr := true) (v := .ref l) (d := .lst vs) (H' := upd (upd H1 p (VwO p a0)) l (.lst vv)) ⟨s2, l, vs, vv, rfl, nl1, .lst upd_same, g3⟩
    exact ha _ _ k1 k2
end
end U
namespace U
set_option autoImplicit false
open PySem L2
section
variable {f g : EF} {ρ : En} {p : Pk} {fs : List EF} {i : Nat}
@[simp] theorem r_it : fIt f ρ = (f ρ).bind fun r => match seqI r.2.1 with
  | some ds => .ok (ds, r.2.2)
  | none => .bad := rfl
@[simp] theorem r_seqIT (ds : List D) : seqI (.tup ds) = some ds := rfl
@[simp] theorem r_seqIL (ds : List D) : seqI (.lst ds) = some ds := rfl
@[simp] theorem r_seqIS (ns : List Int) : seqI (.scr ns) = some (ns.map .int) := rfl
@[simp] theorem r_seqID (ks vs : List D) : seqI (.dic ks vs) = some ks := rfl
@[simp] theorem r_dic0 : fDic0 ρ = .ok (true, .dic [] [], ρ) := rfl
@[simp] theorem r_dic : fDic f g ρ = (f ρ).bind fun a => (g a.2.2).bind fun b => if (a.2.1.isLf || a.2.1.isTk) = true then .ok (true, .dic [a.2.1] [b.2.1], b.2.2) else .bad := rfl
@[simp] theorem r_dm (k : DMG) : fDM k p fs ρ = (p.ev ρ).bind fun a => match p.get a.1 a.2 with
  | some (.dic _ _) => (evA fs a.2).bind fun b => match p.get a.1 b.2 with
    | some (.dic ks vs) => match k ks vs b.1 with
      | some r => .ok (r.1, r.2, b.2)
      | none => .bad
    | _ => .bad
  | _ => .bad := by unfold fDM; rfl
@[simp] theorem r_setd : fSetd i fs ρ = match ρ[i]? with
  | some (some (true, .dic _ _)) => (evA fs ρ).bind fun a => match a.2[i]?, a.1 with
    | some (some (true, .dic ks vs)), [k, x] => match dSto ks vs k x with
      | some r => match dLook ks vs k with
        | some z => .ok (false, z, a.2)
        | none => .ok (false, x, a.2.set i (some (true, .dic r.1 r.2)))
      | none => .bad
    | _, _ => .bad
  | _ => .bad := by unfold fSetd; rfl
@[simp] theorem r_dx : sDx i f g ρ = (g ρ).bind fun r => match r.2.2[i]? with
  | some (some (true, .dic _ _)) => (f r.2.2).bind fun s => match s.2.2[i]? with
    | some (some (true, .dic ks vs)) => match dSto ks vs s.2.1 r.2.1 with
      | some w => .ok (.nx, s.2.2.set i (some (true, .dic w.1 w.2)))
      | none => .bad
    | _ => .bad
  | _ => .bad := by unfold sDx; rfl
end
end U
namespace U
set_option autoImplicit false
open PySem PySem.Spec PyProof.Rows L2

/-! ### sorted: ints, tuples of data -/
def leD (a b : D) : Bool := PySem.W.dataLe false D.py a b
def D.ne0 : D → Bool
  | .tup (_ :: _) => true
  | _ => false
def okSort (ds : List D) : Bool := ds.all D.good && ds.all D.ne0 && (ds.all fun a => ds.all fun b => PySem.W.alike a.py b.py) && decide (ds.length ≤ 16777216)
def dSorted : List D → Option (Bool × D)
  | [.lst ds] => match intsD ds with
    | some ns => some (true, .lst ((sortI ns).map .int))
    | none => if okSort ds then some (true, .lst (ds.mergeSort leD)) else none
  | _ => none
theorem each_zip {R : Value → V → Prop} : ∀ {us : List Value} {xs : List V} {ds : List D}, PySem.W.EachIs R us xs → xs.length = ds.length → PySem.W.EachIs (fun u (p : V × D) => R u p.1) us (xs.zip ds)
  | _, _, _, .nil, _ => by simp; exact .nil
  | _, _, [], .cons h t, e => by simp at e
  | _, _, d :: ds, .cons h t, e => by rw [List.zip_cons_cons]; exact .cons h (each_zip t (by simpa using e))
theorem each_vals : ∀ {us : List Value} {xs : List V}, Vals xs us → PySem.W.EachIs (fun u x => RelV x u) us xs
  | _, _, .nil => .nil
  | _, _, .cons h t => .cons h (each_vals t)
theorem vals_each : ∀ {us : List Value} {ps : List (V × D)}, PySem.W.EachIs (fun u (p : V × D) => RelV p.1 u) us ps → Vals (ps.map (·.1)) us
  | _, _, .nil => .nil
  | _, _, .cons h t => .cons h (vals_each t)
section
variable {X : Cx}
def rSortD (X : Cx) : List V → Hp → VK → Prop := fun vs H Q => ∃ (a : Addr) (xs : List V) (ds : List D), vs = [V.ref a] ∧ SqL X.K H a xs ∧ xs.length = ds.length ∧ (∀ p ∈ xs.zip ds, Dp X.K H p.1 p.2.py) ∧ okSort ds = true ∧
  ∀ p, H p = none → Q (.ref p) (upd H p (.lst (((xs.zip ds).mergeSort fun a b => leD a.2 b.2).map (·.1))))
theorem cr_sortD (hu : X.A.units + 70 < cLine) : CallR X (.builtin "sorted") (rSortD X) := by
  intro pins s σ H vs us Q I r h
  obtain ⟨a, xs, ds, rfl, hq, hl, hp, hg, q⟩ := h
  obtain ⟨u, rfl, rx⟩ := vals1 r
  cases (show u = Value.ref a from rx)
  obtain ⟨its, rv, p, hz⟩ := I.list hq
  unfold okSort at hg
  simp only [Bool.and_eq_true, decide_eq_true_eq] at hg
  obtain ⟨⟨⟨g1, g2⟩, g3⟩, g4⟩ := hg
  have e1 := each_zip (each_vals rv) hl
  have hmem : ∀ p ∈ xs.zip ds, p.2 ∈ ds := fun p hp => (List.of_mem_zip hp).2
  have reads : ∀ {us : List Value} {ps : List (V × D)}, PySem.W.EachIs (fun u (p : V × D) => RelV p.1 u) us ps → (∀ p ∈ ps, Dp X.K H p.1 p.2.py) → PySem.W.EachIs (fun u (p : V × D) => ∃ as, Reads s.heap u p.2.py as) us ps := by
    intro us ps e hh
    induction e with
    | nil => exact .nil
    | cons h t ih => exact .cons (Dp.reads I _ _ _ (hh _ List.mem_cons_self) h) (ih fun p hp => hh p (List.mem_cons_of_mem _ hp))
  have er := reads e1 hp
  have hzl : (xs.zip ds).length = xs.length := by rw [List.length_zip, hl, Nat.min_self]
  refine PySem.W.sorted_data (enc := fun p : V × D => p.2.py) (bs := xs.zip ds) (show s.heap.IsList a its.toArray from p.isList) e1 er ?_ ?_ (by rw [hzl]; exact hz) ?_ fun out ho eo => ?_
  · intro d hd d' hd'
    obtain ⟨p, hp, rfl⟩ := List.mem_map.mp hd
    obtain ⟨p', hp', rfl⟩ := List.mem_map.mp hd'
    exact List.all_eq_true.mp (List.all_eq_true.mp g3 _ (hmem p hp)) _ (hmem p' hp')
  · refine .inl fun d hd => ?_
    obtain ⟨p, hp, rfl⟩ := List.mem_map.mp hd
    have := List.all_eq_true.mp g2 _ (hmem p hp)
    cases e : p.2 with
    | tup l =>
      rw [e] at this
      cases l with
      | nil => cases this
      | cons x r => exact ⟨x.py, D.pyL r, rfl⟩
    | _ => rw [e] at this; cases this
  · intro p hp
    have := SeqAt.depth_of_shaped (good_shaped (List.all_eq_true.mp g1 _ (hmem p hp)))
    omega
  · have hn := I.hok.fresh (Nat.le_succ s.heap.objs.size)
    obtain ⟨c, hc⟩ := sortedAll_at s.heap its out.toArray
    have rel := vals_each eo
    refine ⟨.ref (s.heap.objs.size + 1), _, I.laid (a := s.heap.objs.size + 1) (o := .lst (((xs.zip ds).mergeSort fun a b => leD a.2 b.2).map (·.1))) (t' := s.toks) (fun _ _ => sortedAll_old) (Nat.le_succ _) ⟨?_, out, c, rel, by simpa using hc⟩, rfl, q _ hn⟩
    rw [List.length_map, List.length_mergeSort, hzl]
    exact hz
end
section
variable {X : Cx} {c : Cc} {E : XK} {e : Expr} {ps : List Pk} {p pos : Pos}
theorem repL_zip {A : Addr → Prop} {H : Hp} : ∀ {xs : List V} {ds : List D}, RepL c A H xs ds → ∀ p ∈ xs.zip ds, Rep c A H p.1 p.2
  | _, _, .nil => fun _ h => nomatch h
  | _, _, .cons h t => fun p hp => by
    rw [List.zip_cons_cons] at hp
    rcases List.mem_cons.mp hp with e | e
    · rw [e]; exact h
    · exact repL_zip t p e
theorem repL_pairs {A : Addr → Prop} {H : Hp} : ∀ {ps : List (V × D)}, (∀ p ∈ ps, Rep c A H p.1 p.2) → RepL c A H (ps.map (·.1)) (ps.map (·.2))
  | [], _ => .nil
  | p :: ps, h => .cons (h p List.mem_cons_self) (repL_pairs fun q hq => h q (List.mem_cons_of_mem _ hq))
theorem gs_sortedC (hK : X.K = c.K) : GSN c dSorted (fun vs H Q => rSortedI X.K vs H Q ∨ rSortD X vs H Q) := by
  intro A H vs ds0 fr d Q h e k
  unfold dSorted at e
  split at e
  case h_2 => cases e
  rename_i ds
  cases q : intsD ds with
  | some ns =>
    rw [q] at e
    exact .inl (gs_sorted hK A H vs _ fr d Q h (by unfold dSortedS; dsimp only; rw [q]; exact e) k)
  | none =>
    rw [q] at e
    dsimp only at e
    split at e
    case isFalse => cases e
    rename_i hg
    cases e
    obtain ⟨v, rfl, hv⟩ := repTs1 h
    obtain ⟨a, xs, rfl, h1, h2⟩ := repT_lst hv
    have hz := repL_zip h2
    have g1 : ds.all D.good = true := by
      unfold okSort at hg
      simp only [Bool.and_eq_true] at hg
      exact hg.1.1.1
    refine .inr ⟨a, xs, ds, rfl, .inl (.inl h1), h2.len, fun p hp => ?_, hg, fun p np => k _ _ (new_lst np ?_)⟩
    · rw [hK]
      exact RepT.dp (List.all_eq_true.mp g1 _ (List.of_mem_zip hp).2) (.inl (hz p hp))
    · have e2 : ((xs.zip ds).mergeSort fun a b => leD a.2 b.2).map (·.2) = ds.mergeSort leD := by
        rw [List.map_mergeSort (s := leD) (f := fun p : V × D => p.2) (fun _ _ _ _ => rfl)]
        congr 1
        rw [List.map_snd_zip]
        rw [h2.len]
        exact Nat.le_refl _
      rw [← e2]
      exact repL_pairs fun p hp => hz p (List.mem_mergeSort.mp hp)
theorem b_sorted {n : Nat} (hr : Room n X.A) (hK : X.K = c.K) (hm : X.mg "sorted" = none) (ha : DPs X c E [e] ps) (hg : Gl X "sorted" := by rfl) (hs : starEach [e] X.env = (false, eval e X.env) :: starEach [] X.env := by rfl) (hpl : (backTo pos (starEach [] X.env)).any (·.1) = false := by rfl) : DE X c E (.Call (.Name "sorted" p) [e] [] pos) (opN dSorted ps) :=
  de_opN (gs_sortedC hK) ha fun h => pe_callB (cr_sortedI.or (cr_sortD (by have := hr.un; omega))) hg hm (by rfl) h (by decide) (by decide) hs hpl
end
end U
namespace U
set_option autoImplicit false
open PySem PySem.Spec PyProof.Rows L2

/-! ### len(set(ints)) -/
section
variable {X : Cx}
theorem cr_lenSet : CallR X (.builtin "len") (fun vs H Q => ∃ a S n, vs = [V.ref a] ∧ H a = some (SetO X.w a S n) ∧ Q (.int (n : Nat)) H) := by
  intro pins s σ H vs us Q I r h
  obtain ⟨a, S, n, rfl, ha, q⟩ := h
  obtain ⟨u, rfl, ru⟩ := vals1 r
  cases (show u = Value.ref a from ru)
  obtain ⟨o, es, ep, t, ho, hex, hd, _, _, _, hb, hf, hn, _⟩ := setO_get I ha
  refine call_len_set ho hex hd hf (by unfold scanBound at hb; omega) ⟨.int n, H, I.tok _, ⟨_, by rw [hn]⟩, q⟩
end
def dLenSet : List D → Option (Bool × D)
  | [.lst ds] => (intsD ds).bind fun ns => if ns.length ≤ 1000 then some (false, .int ((nubI ns).length : Nat)) else none
  | [.tup ds] => (intsD ds).bind fun ns => if ns.length ≤ 1000 then some (false, .int ((nubI ns).length : Nat)) else none
  | _ => none
section
variable {X : Cx} {c : Cc} {E : XK} {e : Expr} {ps : List Pk} {p pos p1 pos1 : Pos}
theorem gs_lenSet (hK : X.K = c.K) : GSN c dLenSet (fun vs H Q => rSetLi X.K X.w vs H fun v H1 => ∃ a S n, [v] = [V.ref a] ∧ H1 a = some (SetO X.w a S n) ∧ Q (.int (n : Nat)) H1) := by
  intro A H vs ds fr d Q h e k
  have key : ∀ (ds : List D), ((intsD ds).bind fun ns => if ns.length ≤ 1000 then some (false, D.int ((nubI ns).length : Nat)) else none) = some (fr, d) →
      (∀ ns, intsD ds = some ns → ∃ a, vs = [.ref a] ∧ (SqL X.K H a (ns.map V.int) ∨ SqT X.K H a (ns.map V.int))) → rSetLi X.K X.w vs H fun v H1 => ∃ a S n, [v] = [V.ref a] ∧ H1 a = some (SetO X.w a S n) ∧ Q (.int (n : Nat)) H1 := by
    intro ds e ho
    cases q : intsD ds with
    | none => rw [q] at e; cases e
    | some ns =>
      rw [q] at e
      dsimp only [Option.bind] at e
      split at e
      case isFalse => cases e
      rename_i hb
      cases e
      obtain ⟨a, rfl, h1⟩ := ho ns q
      exact ⟨a, ns, rfl, h1, hb, fun p np => ⟨p, _, _, rfl, upd_same, k _ _ ⟨same_new np, .int _⟩⟩⟩
  unfold dLenSet at e
  split at e
  case h_3 => cases e
  · exact key _ e fun ns q => by
      obtain ⟨a, h1, h2⟩ := one_ints hK h q
      exact ⟨a, h1, .inl h2⟩
  · exact key _ e fun ns q => by
      obtain ⟨v, rfl, hv⟩ := repTs1 h
      obtain ⟨a, xs, rfl, h1, h2⟩ := repT_tup hv
      rw [intsD_map q] at h2
      rw [repL_intsV h2, ← hK] at h1
      exact ⟨a, rfl, .inr h1⟩
theorem b_lenSet (hK : X.K = c.K) (hc : X.calm = true) (hm : X.mg "len" = none) (hm2 : X.mg "set" = none) (ha : DPs X c E [e] ps) (hg : Gl X "len" := by rfl) (hg2 : Gl X "set" := by rfl)
    (hs : starEach [e] X.env = (false, eval e X.env) :: starEach [] X.env := by rfl) (hpl1 : (backTo pos1 (starEach [] X.env)).any (·.1) = false := by rfl)
    (hs2 : starEach [.Call (.Name "set" p1) [e] [] pos1] X.env = (false, eval (.Call (.Name "set" p1) [e] [] pos1) X.env) :: starEach [] X.env := by rfl) (hpl : (backTo pos (starEach [] X.env)).any (·.1) = false := by rfl) :
    DE X c E (.Call (.Name "len" p) [.Call (.Name "set" p1) [e] [] pos1] [] pos) (opN dLenSet ps) := by
  refine de_opN (gs_lenSet hK) ha fun h => pe_imp (pe_callB cr_lenSet hg hm PySem.boot_len (pa_cons (pe_callTy (cr_setLi hc) hg2 hm2 (by rfl) h (by decide) (by decide) hs hpl1) pa_nil hs2) (by decide) (by decide) hs2 hpl) fun σ H Q q => q
end
end U
namespace U
set_option autoImplicit false
section
open PySem PySem.Calls PyProof.Rows PySem.W
/-! ### sorted(xs, key=f), f a def whose calls may move the slots of the callers' frames -/
/-- all is kept, the frames but for their slots -/
def KB (fs : List Addr) (h h' : Heap) : Prop := ∀ b o, h.get? b = some o → (b ∉ fs → h'.get? b = some o) ∧ ∃ sl, h'.get? b = some { o with slots := sl }
theorem KB.of {fs : List Addr} {h h' : Heap} (k : ∀ b o, h.get? b = some o → h'.get? b = some o) : KB fs h h' := fun b o e => ⟨fun _ => k b o e, o.slots, k b o e⟩
theorem KB.trans {fs : List Addr} {h h' h'' : Heap} (k : KB fs h h') (k' : KB fs h' h'') : KB fs h h'' := fun b o e => by
  obtain ⟨k1, sl, k2⟩ := k b o e
  obtain ⟨_, sl', k3⟩ := k' b _ k2
  exact ⟨fun hb => (k' b o (k1 hb)).1 hb, sl', k3⟩
theorem KB.hide {fs : List Addr} {h h' : Heap} (k : KB fs h h') {b : Addr} {o : Obj} (e : (hideAll h fs).get? b = some o) : (hideAll h' fs).get? b = some o := by
  have hb : b ∉ fs := fun z => by rw [hideAll_none fs z] at e; cases e
  exact hideAll_get fs ((k b o (of_hideAll fs e)).1 hb) hb
section
variable {prog : Program} {w : World} {A : Around} {E : Value → Shared → Prop} {s : Shared} {a kS : Addr} {b : Bool} {vs : List Value} {keys : Array Value} {e e1 : Nat} {P : PySem.Fin → Shared → Prop} {kz : List PyData}
theorem kf_rest {f : Value} {fs : List Addr} {J : Shared → Prop} (hJ : ∀ s' h' tk, J s' → (∀ b o, b ≠ kS → s'.heap.get? b = some o → h'.get? b = some o) → J { s' with heap := h', toks := tk }) (J0 : J s) (kfs : kS ∉ fs) (afs : a ∉ fs)
    (nk : s.heap.get? kS = some (seqObj "list" #[] 0)) (na : s.heap.get? a = some (seqObj "list" #[] e1)) (hka : kS ≠ a)
    (hlen : kz.length = vs.length) (hZ : vs.length ≤ sizeLine) (hal : AllAlike kz) (hsk : Sortable kz) (hu : ∀ d, d ∈ kz → A.units + d.depth < cLine)
    (turn : ∀ (i : Nat) (v : Value) (k : PyData), vs[i]? = some v → kz[i]? = some k → ∀ s', J s' →
      wpAny (model prog w) A (call f [v]) (fun u s'' => J s'' ∧ KB fs s'.heap s''.heap ∧ Reads (hideAll s''.heap fs) u k []) (fun _ _ => False) s')
    (h : ∀ s' h' tk out c, J s' → (∀ b o, b ≠ a → b ≠ kS → s'.heap.get? b = some o → h'.get? b = some o) → h'.get? a = some (seqObj "list" (List.toArray out) c) → KeyedOut b kz vs out → P (.done (.ret .none)) { s' with heap := h', toks := tk }) :
    wpAny (model prog w) A (ksk_rest a f b vs.toArray e1 (.ref kS)) P E s := by
  unfold ksk_rest
  refine wpAny_bind (wpAny_rule ?_)
  first
    | rw [List.forIn_toArray]
    | (rw [← Array.forIn_toList]; simp only [List.toList_toArray])
    | rw [← Array.forIn_toList]
  refine wpAny_bind (ksk_fold (fun i s' => J s' ∧ ∃ kA e, s'.heap.get? kS = some (seqObj "list" kA e) ∧ s'.heap.get? a = some (seqObj "list" #[] e1) ∧ EachIs (fun v k => Reads (hideAll s'.heap fs) v k [] ∧ alike k k = true) kA.toList (kz.take i)) vs 0 s
    ⟨J0, #[], 0, nk, na, by rw [List.take_zero]; exact EachIs.nil⟩ ?step ?done)
  case step =>
    rintro j x s' hx ⟨hj', kA, e, nk', na', hk⟩
    simp only [Nat.zero_add] at hk ⊢
    have hj : j < vs.length := (List.getElem?_eq_some_iff.mp hx).1
    obtain ⟨k, hkj⟩ : ∃ k, kz[j]? = some k := ⟨_, List.getElem?_eq_getElem (by omega)⟩
    have hkk : alike k k = true := hal k (List.mem_of_getElem? hkj) k (List.mem_of_getElem? hkj)
    have hz : kA.size ≤ vs.length := by
      have h1 := hk.length
      rw [Array.length_toList, List.length_take] at h1
      omega
    refine wpAny_bind (wpAny_attempt (wpAny_mono (turn j x k hx hkj s' hj') (fun v s'' he => ?_) fun _ _ hF => hF.elim))
    obtain ⟨j2, hg, hr⟩ := he
    try dsimp only
    have nk2 : s''.heap.get? kS = some (seqObj "list" kA e) := (hg _ _ nk').1 kfs
    have na2 : s''.heap.get? a = some (seqObj "list" #[] e1) := (hg _ _ na').1 afs
    have s1 := Heap.SameBut.update s''.heap kS (Obj.mapSeq (·.push v))
    obtain ⟨c2, hc2⟩ : ∃ c2, (s''.heap.update kS (Obj.mapSeq (·.push v))).get? kS = some (seqObj "list" (kA.push v) c2) := ⟨_, get?_update_seq nk2 (·.push v)⟩
    have ek : kz.take (j + 1) = kz.take j ++ [k] := by rw [List.take_add_one, hkj]; simp
    have ea : (kA.push v).toList = kA.toList ++ [v] := by simp
    refine wpAny_bind (listUpdate_at nk2 rfl ?_ (Nat.le_trans hz hZ) (Nat.le_trans (Nat.le_of_eq (Array.size_push ..)) (Nat.succ_le_succ (Nat.le_trans hz hZ))))
    have keepS : ∀ (u : Value) (d : PyData), Reads (hideAll s''.heap fs) u d [] ∧ alike d d = true → Reads (hideAll (s''.heap.update kS (Obj.mapSeq (·.push v))) fs) u d [] ∧ alike d d = true := fun u d q =>
      ⟨Reads.keepBut (a := kS) (h := hideAll s''.heap fs) (h' := hideAll (s''.heap.update kS (Obj.mapSeq (·.push v))) fs) (fun b o hb e => by
          have hbf : b ∉ fs := fun z => by rw [hideAll_none fs z] at e; cases e
          exact hideAll_get fs ((s1.2 b hb).trans (of_hideAll fs e)) hbf) (fun o e => by
          have e := of_hideAll fs e
          rw [nk2] at e; rw [← Option.some.inj e]) d u [] q.2 q.1 (by simp), q.2⟩
    refine wpAny_pure ⟨rfl, hJ _ _ _ j2 (fun b o hb e => (s1.2 b hb).trans e), kA.push v, c2, hc2, (s1.2 a hka.symm).trans na2, ?_⟩
    rw [ea, ek]
    refine each_snoc (R := fun (u : Value) (d : PyData) => Reads (hideAll (s''.heap.update kS (Obj.mapSeq (·.push v))) fs) u d [] ∧ alike d d = true) (keepS v k ⟨hr, hkk⟩) ?_
    exact hk.mono fun u d q => keepS u d ⟨PyProof.Rows.Reads.keeps (fun b o e => hg.hide e) q.1, q.2⟩
  case done =>
    rintro s' ⟨hj', kA, e, nk', na', hk⟩
    have hk' : EachIs (fun v k => ∃ as, Reads s'.heap v k as) kA.toList kz := by
      have e3 : kz.take (0 + vs.length) = kz := List.take_of_length_le (by omega)
      rw [e3] at hk
      exact hk.mono fun v k q => ⟨[], PyProof.Rows.Reads.keeps (fun b o e => of_hideAll fs e) q.1⟩
    have hsz : kA.size = vs.length := by
      have h1 := hk'.length
      rw [Array.length_toList] at h1
      omega
    try dsimp only
    refine wpAny_bind (listItems_at nk' rfl ?_)
    refine keyH_end (κ := dataKind s'.heap kz) (h₁ := hideAll s'.heap [kS]) (fun b o _ e => of_hideAll _ e) (hideAll_none [kS] (List.mem_singleton.mpr rfl)) nk' na' hka (SortsAt.data (s := s') hk' hal hsk hu) hsz hZ fun h3 tk3 c k3 n3 => ?_
    exact h s' h3 tk3 _ c hj' (fun b o hb hb2 e => k3 b o hb (hideAll_get [kS] e (fun z => hb2 (List.mem_singleton.mp z)))) n3 ⟨s'.heap, kA.toList, hal, rfl, hk'⟩
theorem kf_tree {f : Value} {fs : List Addr} {n : Nat} {J : Shared → Prop} (hJ : ∀ s' h' tk kS, kS ≠ a → s.heap.objs.size ≤ kS → J s' → (∀ b o, b ≠ kS → s'.heap.get? b = some o → h'.get? b = some o) → J { s' with heap := h', toks := tk })
    (J0 : ∀ h' tk, (∀ b o, b ≠ a → s.heap.get? b = some o → h'.get? b = some o) → J { s with heap := h', toks := tk }) (hfs : ∀ b ∈ fs, b < s.heap.objs.size) (afs : a ∉ fs)
    (ho : s.heap.get? a = some (seqObj "list" vs.toArray n)) (hlen : kz.length = vs.length) (hZ : vs.length ≤ sizeLine) (hal : AllAlike kz) (hsk : Sortable kz) (hu : ∀ d, d ∈ kz → A.units + d.depth < cLine)
    (turn : ∀ (i : Nat) (v : Value) (k : PyData), vs[i]? = some v → kz[i]? = some k → ∀ s', J s' →
      wpAny (model prog w) A (call f [v]) (fun u s'' => J s'' ∧ KB fs s'.heap s''.heap ∧ Reads (hideAll s''.heap fs) u k []) (fun _ _ => False) s')
    (h : ∀ s' h' tk out c kS, s.heap.objs.size ≤ kS → J s' → (∀ b o, b ≠ a → b ≠ kS → s'.heap.get? b = some o → h'.get? b = some o) → h'.get? a = some (seqObj "list" (List.toArray out) c) → KeyedOut b kz vs out → P (.done (.ret .none)) { s' with heap := h', toks := tk }) :
    wpAny (model prog w) A (ksk_tree a f b) P E s := by
  have ha : a < s.heap.objs.size := Heap.lt_size ho
  obtain ⟨e1, ho1⟩ : ∃ e1, (s.heap.update a (Obj.mapSeq fun _ => (#[] : Array Value))).get? a = some (seqObj "list" #[] e1) := ⟨_, get?_update_seq ho fun _ => #[]⟩
  have hkS : ((s.heap.update a (Obj.mapSeq fun _ => (#[] : Array Value))).push (seqObj "tuple" vs.toArray 0)).objs.size = s.heap.objs.size + 1 := by rw [size_push', Heap.size_update]
  unfold ksk_tree
  refine wpAny_bind (listItems_at ho rfl ?_)
  refine wpAny_bind (listUpdate_at ho rfl ?_ (by rw [List.size_toArray]; exact hZ) (Nat.zero_le _))
  refine wpAny_bind (seqEpoch_at ho1 rfl ?_)
  refine wpAny_bind (wpAny_newTuple ?_ (by show vs.length ≤ _; exact hZ))
  refine wpAny_bind (wpAny_newList ?_ (Nat.zero_le _))
  refine wpAny_holding ?_
  have kp : ∀ b o, b ≠ a → s.heap.get? b = some o → (sortingHeap s.heap a vs).get? b = some o := fun b o hb q => sortingHeap_old hb q
  refine kf_rest (kz := kz) (J := J) (s := { s with heap := ((s.heap.update a (Obj.mapSeq fun _ => (#[] : Array Value))).push (seqObj "tuple" vs.toArray 0)).push (seqObj "list" #[] 0) }) (kS := ((s.heap.update a (Obj.mapSeq fun _ => (#[] : Array Value))).push (seqObj "tuple" vs.toArray 0)).objs.size)
    (fun s' h' tk j k => hJ s' h' tk _ (by rw [hkS]; exact Nat.ne_of_gt (Nat.lt_succ_of_lt ha)) (by rw [hkS]; exact Nat.le_succ _) j k) (J0 _ s.toks kp) (fun z => absurd (hfs _ z) (by rw [hkS]; exact Nat.not_lt.mpr (Nat.le_succ _))) afs
    (Heap.get?_push_size _ rfl) (Heap.get?_push_of_some _ (Heap.get?_push_of_some _ ho1)) (by rw [hkS]; exact Nat.ne_of_gt (Nat.lt_succ_of_lt ha)) hlen hZ hal hsk hu turn fun s' h' tk out c j k n ko => h s' h' tk out c _ (by rw [hkS]; exact Nat.le_succ _) j k n ko
end
section
variable {prog : Program} {w : World} {A : Around} {E : Value → Shared → Prop} {s : Shared} {β : Type} {vs : List Value} {bs : List β} {R : Value → β → Prop}
/-- sorted(xs, key=f) -/
theorem kf_sorted {l q : Addr} {fs : List Addr} {J : Shared → Prop} {Q : Value → Shared → Prop} (k : β → PyData) (hl : s.heap.IsList l vs.toArray) (e : EachIs R vs bs) (hal : AllAlike (bs.map k)) (hk : Sortable (bs.map k)) (hL : bs.length ≤ sizeLine)
    (hu : ∀ x, x ∈ bs → A.units + 2 + (k x).depth < cLine) (hfs : ∀ b ∈ fs, b < s.heap.objs.size)
    (hJ : ∀ s' h' tk, J s' → (∀ b o, b < s.heap.objs.size → s'.heap.get? b = some o → h'.get? b = some o) → J { s' with heap := h', toks := tk }) (J0 : J s)
    (turn : ∀ (v : Value) (x : β), R v x → x ∈ bs → ∀ s', J s' →
      wpAny (model prog w) A.in1.in1 (call (.ref q) [v]) (fun u s'' => J s'' ∧ KB fs s'.heap s''.heap ∧ Reads (hideAll s''.heap fs) u (k x) []) (fun _ _ => False) s')
    (h : ∀ out c s', J s' → s'.heap.get? (s.heap.objs.size + 1) = some (seqObj "list" (List.toArray out) c) → out.length = bs.length → EachIs R out (bs.mergeSort (dataLe false k)) → Q (.ref (s.heap.objs.size + 1)) s') :
    wpAny (model prog w) A (call (.builtin "sorted") [.ref l] [(Str.ofString "key", .ref q)]) Q E s := by
  refine sorted_of_sort hl (by rw [e.length]; exact hL) (ksk_s1 _ _) (fun _ => ksk_l1 _ _) fun E' => ?_
  rw [ksk_t1]
  have hat := copyHeap_at s.heap vs
  have hsz : s.heap.objs.size < (copyHeap s.heap vs).objs.size := Nat.lt_of_succ_lt (Heap.lt_size hat)
  have J1 : J { s with heap := copyHeap s.heap vs } := hJ s _ s.toks J0 fun b o _ e => copyHeap_old e
  refine kf_tree (kz := bs.map k) (s := { s with heap := copyHeap s.heap vs }) (fs := fs) (J := J) (fun s' h' tk kS _ hkS j kp => hJ s' h' tk j fun b o hb e => kp b o (Nat.ne_of_lt (Nat.lt_trans hb (Nat.lt_of_lt_of_le hsz hkS))) e)
    (fun h' tk kp => hJ _ h' tk J1 fun b o hb e => kp b o (Nat.ne_of_lt (Nat.lt_succ_of_lt hb)) e) (fun b hb => Nat.lt_trans (hfs b hb) hsz) (fun z => absurd (hfs _ z) (Nat.not_lt.mpr (Nat.le_succ _)))
    hat (by rw [List.length_map]; exact e.length.symm) (by rw [e.length]; exact hL) hal hk (bound_map (A := A.in1.in1) hu) ?_ fun s' h' tk out c kS hkS j kp hD ko => ⟨rfl, ?_⟩
  · intro i v d hv hd s' j
    rw [List.getElem?_map] at hd
    cases q : bs[i]? with
    | none => rw [q] at hd; simp at hd
    | some x =>
      rw [q] at hd
      have hd' : some (k x) = some d := hd
      rw [← Option.some.inj hd']
      have hz : (v, x) ∈ vs.zip bs := List.mem_of_getElem? (i := i) (by rw [List.getElem?_zip_eq_some]; exact ⟨hv, q⟩)
      exact turn v x (e.zip _ hz) (List.mem_of_getElem? q) s' j
  · refine h out c _ (hJ s' h' tk j fun b o hb e => kp b o (Nat.ne_of_lt (Nat.lt_succ_of_lt hb)) (Nat.ne_of_lt (Nat.lt_trans hb (Nat.lt_of_lt_of_le hsz hkS))) e) hD ((ko.length (by rw [List.length_map]; exact e.length.symm)).trans e.length) (keyedOut_each k ko e)
end
end
end U
namespace U
set_option autoImplicit false
open PySem PySem.Spec PyProof.Rows L2
/-! ### sorted(xs, key=f): tuples and what is no cell -/
def D.okT : Nat → D → Bool
  | _, .non => true
  | _, .bl _ => true
  | _, .int _ => true
  | _, .str x => PyData.strOk x
  | n + 1, .tup ds => ds.all (D.okT n)
  | _, _ => false
theorem okT_okN : ∀ (n : Nat) (d : D), D.okT n d = true → D.okN n d = true
  | _, .non, _ => by unfold D.okN; rfl
  | _, .bl _, _ => by unfold D.okN; rfl
  | _, .int _, _ => by unfold D.okN; rfl
  | _, .str x, h => by unfold D.okT at h; unfold D.okN; exact h
  | 0, .tup _, h => by unfold D.okT at h; cases h
  | n + 1, .tup ds, h => by
    unfold D.okT at h
    unfold D.okN
    rw [List.all_eq_true] at h ⊢
    exact fun d hd => okT_okN n d (h d hd)
  | _, .lst _, h => by unfold D.okT at h; cases h
  | _, .dic _ _, h => by unfold D.okT at h; cases h
  | _, .fn _, h => by unfold D.okT at h; cases h
  | _, .exc _ _, h => by unfold D.okT at h; cases h
  | _, .scr _, h => by unfold D.okT at h; cases h
section
variable {c : Cc} {A A' : Addr → Prop} {H H' : Hp}
theorem RepL.allT {p : D → Bool} (f : ∀ d v, p d = true → Rep c A H v d → Rep c A' H' v d) : ∀ {vs : List V} {ds : List D}, ds.all p = true → RepL c A H vs ds → RepL c A' H' vs ds
  | _, _, _, .nil => .nil
  | _, _, h, .cons h1 h2 => by
    rw [List.all_cons, Bool.and_eq_true] at h
    exact .cons (f _ _ h.1 h1) (RepL.allT f h.2 h2)
theorem Rep.okT (hT : ∀ a xs, SqT c.K H a xs → SqT c.K H' a xs) : ∀ (n : Nat) (d : D) (v : V), D.okT n d = true → Rep c A H v d → Rep c A' H' v d
  | _, .non, _, _, h => by cases h; exact .non
  | _, .bl b, _, _, h => by cases h; exact .bl b
  | _, .int i, _, _, h => by cases h; exact .int i
  | _, .str x, _, _, h => by cases h; exact .str x
  | 0, .tup _, _, e, _ => by unfold D.okT at e; cases e
  | n + 1, .tup ds, _, e, h => by
    unfold D.okT at e
    cases h with
    | tup h1 h2 => exact .tup (hT _ _ h1) (RepL.allT (fun d v k r => Rep.okT hT n d v k r) e h2)
  | _, .lst _, _, e, _ => by unfold D.okT at e; cases e
  | _, .dic _ _, _, e, _ => by unfold D.okT at e; cases e
  | _, .fn _, _, e, _ => by unfold D.okT at e; cases e
  | _, .exc _ _, _, e, _ => by unfold D.okT at e; cases e
  | _, .scr _, _, e, _ => by unfold D.okT at e; cases e
theorem readsL {h : Heap} {p : D → Bool} (f : ∀ d v u, p d = true → Rep c A H v d → RelV v u → Reads h u d.py []) : ∀ {vs : List V} {ds : List D} {us : List Value}, ds.all p = true → RepL c A H vs ds → Vals vs us → ReadsAll h us (D.pyL ds) []
  | _, _, _, _, .nil, .nil => .nil
  | _, _, _, e, .cons h1 h2, .cons r1 r2 => by
    rw [List.all_cons, Bool.and_eq_true] at e
    have := ReadsAll.cons (f _ _ _ e.1 h1 r1) (readsL f e.2 h2 r2)
    exact this
theorem reads_okT {P : Program} {w : World} {h : Heap} (hok : HOk P w H h) (hk : c.K.In h) : ∀ (n : Nat) (d : D) (v : V) (u : Value), D.okT n d = true → Rep c A H v d → RelV v u → Reads h u d.py []
  | _, .non, _, _, _, h, r => by cases h; cases r; exact .none
  | _, .bl b, _, _, _, h, r => by cases h; cases r; exact .bool b
  | _, .int i, _, _, _, h, r => by cases h; obtain ⟨t, rfl⟩ := r; exact .int i t
  | _, .str x, _, _, _, h, r => by cases h; obtain ⟨t, rfl⟩ := r; exact .str x t
  | 0, .tup _, _, _, e, _, _ => by unfold D.okT at e; cases e
  | n + 1, .tup ds, _, _, e, hh, r => by
    unfold D.okT at e
    cases hh with
    | @tup a xs _ h1 h2 =>
      cases r
      have ht : ∃ its : List Value, Vals xs its ∧ IsTup h a its.toArray := by
        rcases h1 with h1 | ⟨o, its, n, hk1, hc, hs, hz, r⟩
        · obtain ⟨z, its, r, p⟩ := h1.ok hok
          exact ⟨its, r, p⟩
        · exact ⟨its.toList, r, ⟨o, hk _ o hk1, hc, n, by simpa using hs⟩⟩
      obtain ⟨its, rv, o, ho, hc, m, hd⟩ := ht
      exact Reads.tuple ho hc hd (readsL (fun d v u k q r => reads_okT hok hk n d v u k q r) e h2 rv)
  | _, .lst _, _, _, e, _, _ => by unfold D.okT at e; cases e
  | _, .dic _ _, _, _, e, _, _ => by unfold D.okT at e; cases e
  | _, .fn _, _, _, e, _, _ => by unfold D.okT at e; cases e
  | _, .exc _ _, _, _, e, _, _ => by unfold D.okT at e; cases e
  | _, .scr _, _, _, e, _, _ => by unfold D.okT at e; cases e
end
/-- the key of an item -/
def keyD (g : FD) (d : D) : D := match g [d] with
  | .ok (false, k, _) => k
  | _ => .non
def okKey (g : FD) (d : D) : Bool := match g [d] with
  | .ok (false, k, _) => k.okT 60 && k.ne0
  | _ => false
def leK (g : FD) (a b : D) : Bool := leD (keyD g a) (keyD g b)
def okSortK (g : FD) (ds : List D) : Bool := ds.all (D.okT 60) && ds.all (okKey g) && (ds.all fun a => ds.all fun b => PySem.W.alike (keyD g a).py (keyD g b).py) && decide (ds.length ≤ 16777216)
def dSortK (g : FD) : List D → Option (Bool × D)
  | [.lst ds] => if okSortK g ds then some (true, .lst (ds.mergeSort (leK g))) else none
  | _ => none
/-- the tuples alone, as they stand -/
def onlyT (H : Hp) (h : Heap) : Hp := fun b => match H b with
  | some (.tup xs) => (h.get? b).map fun o => .frz o (.tup xs)
  | some (.frz o (.tup xs)) => some (.frz o (.tup xs))
  | _ => none
section
variable {P : Program} {w : World} {H : Hp} {h : Heap}
theorem onlyT_none {b : Addr} (e : H b = none) : onlyT H h b = none := by unfold onlyT; rw [e]
theorem onlyT_frz {b : Addr} {u : HO} (e : onlyT H h b = some u) : ∃ o xs, u = .frz o (.tup xs) := by
  unfold onlyT at e
  split at e
  · rename_i xs _
    cases q : h.get? b with
    | none => rw [q] at e; cases e
    | some o => rw [q] at e; exact ⟨o, xs, (Option.some.inj e).symm⟩
  · rename_i o xs _
    exact ⟨o, xs, (Option.some.inj e).symm⟩
  · cases e
theorem onlyT_ok (x : HOk P w H h) : HOk P w (onlyT H h) h := fun b u e => by
  have e0 := e
  unfold onlyT at e
  split at e
  · rename_i xs hb
    cases q : h.get? b with
    | none => rw [q] at e; cases e
    | some o =>
      rw [q] at e
      obtain rfl := Option.some.inj e
      exact ⟨q, x b _ hb⟩
  · rename_i o xs hb
    obtain rfl := Option.some.inj e
    exact x b _ hb
  · cases e
theorem onlyT_sqT {K : PySem.W.Frag} (x : HOk P w H h) {a : Addr} {xs : List V} (s : SqT K H a xs) : SqT K (onlyT H h) a xs := by
  rcases s with (s | ⟨o, s⟩) | s
  · obtain ⟨_, its, _, o, ho, _⟩ := x a _ s
    refine .inl (.inr ⟨o, ?_⟩)
    unfold onlyT
    rw [s]
    dsimp only
    rw [ho]; rfl
  · refine .inl (.inr ⟨o, ?_⟩)
    unfold onlyT
    rw [s]
  · exact .inr s
end
section
variable {X : Cx}
def rSortK (X : Cx) (c : Cc) (g : FD) : List V → Hp → VK → Prop := fun vs H Q => ∃ (a : Addr) (xs : List V) (ds : List D) (A : Addr → Prop), vs = [V.ref a] ∧ SqL X.K H a xs ∧ xs.length = ds.length ∧ (∀ p ∈ xs.zip ds, Rep c A H p.1 p.2) ∧ okSortK g ds = true ∧
  ∀ p, H p = none → Q (.ref p) (upd H p (.lst (((xs.zip ds).mergeSort fun a b => leK g a.2 b.2).map (·.1))))
theorem cr_sortK {c : Cc} {k : Nat} {f : Addr} {fd : FuncData} {ps : List Str} {g : FD} (hK : X.K = c.K) (F : FnOk X.prog X.w X.K X.mg X.base CX0 k f fd ps (spOf c false g)) (hr : Room (k + 2) X.A) (hb : Binds X.K fd ps []) :
    CallRK X (.builtin "sorted") [Str.ofString "key"] (fun vs zs H Q => zs = [.ref f] ∧ rSortK X c g vs H Q) := by
  intro pins s σ H vs zs us ws Q I r rz h
  obtain ⟨rfl, a, xs, ds, Av, rfl, hq, hl, hp, hg, q⟩ := h
  obtain ⟨u, rfl, rx⟩ := vals1 r
  cases (show u = Value.ref a from rx)
  obtain ⟨w1, rfl, e1⟩ := vals1 rz
  cases (show w1 = Value.ref f from e1)
  obtain ⟨its, rv, p, hz⟩ := I.list hq
  unfold okSortK at hg
  simp only [Bool.and_eq_true, decide_eq_true_eq] at hg
  obtain ⟨⟨⟨g1, g2⟩, g3⟩, g4⟩ := hg
  have e1 := each_zip (each_vals rv) hl
  have hmem : ∀ p ∈ xs.zip ds, p.2 ∈ ds := fun p hp => (List.of_mem_zip hp).2
  have hkey : ∀ d ∈ ds, ∃ k out, g [d] = .ok (false, k, out) ∧ keyD g d = k ∧ k.okT 60 = true ∧ k.ne0 = true := fun d hd => by
    have := List.all_eq_true.mp g2 d hd
    unfold okKey at this
    split at this
    · rename_i k out e
      rw [Bool.and_eq_true] at this
      exact ⟨k, out, e, by unfold keyD; rw [e], this⟩
    · cases this
  have hzl : (xs.zip ds).length = xs.length := by rw [List.length_zip, hl, Nat.min_self]
  have hstk : ∀ b ∈ frs X.stack, X.base.get? b = none ∧ b < s.heap.objs.size := fun b hb => by
    obtain ⟨h1, o, h2, _⟩ := I.stack.mem hb
    exact ⟨h1, Heap.lt_size h2⟩
  have hsf : ∀ b ∈ frs X.stack, H b = none := I.stkFree
  have hook : ∀ s' : Shared, KB (frs X.stack) s.heap s'.heap → HOk X.prog X.w H s'.heap := fun s' kb b o e => (I.hok b o e).stay (fun b' u hb' e' => (kb b' u e').1 fun z => by
      have := hsf b' z
      rcases hb' with rfl | hb'
      · rw [this] at e; cases e
      · rw [this] at hb'; cases hb') (fun _ q => q) fun _ _ q => q
  have hun : ∀ s' : Shared, KB (frs X.stack) s.heap s'.heap → Un (frs X.stack) [] H H s.heap s'.heap := fun s' kb => ⟨fun b o e _ hb _ => (kb b o e).1 hb, fun b o e _ _ _ => (kb b o e).2, fun _ _ _ n _ => n, fun b o e _ => by
      obtain ⟨sl, k⟩ := (kb b o e).2
      exact ⟨_, k⟩, fun _ _ e => e, fun _ _ _ e => e, fun _ ps e => ⟨#[], by rw [e]; simp⟩⟩
  have hinv : ∀ s' : Shared, s'.os = s.os → AllBare s'.gens → KB (frs X.stack) s.heap s'.heap → Inv X pins σ H s' := fun s' ho hgn kb => I.call' ho (hun s' kb) (hook s' kb) hgn (fun b z => by cases z)
  refine kf_sorted (fs := frs X.stack) (J := fun s' => s'.os = s.os ∧ AllBare s'.gens ∧ KB (frs X.stack) s.heap s'.heap) (k := fun p : V × D => (keyD g p.2).py) (bs := xs.zip ds) (show s.heap.IsList a its.toArray from p.isList) e1 ?_ ?_ (by rw [hzl]; exact hz) ?_ (fun b hb => (hstk b hb).2) ?_ ⟨rfl, I.bare, KB.of fun _ _ e => e⟩ ?_ ?_
  · intro d hd d' hd'
    obtain ⟨p, hp, rfl⟩ := List.mem_map.mp hd
    obtain ⟨p', hp', rfl⟩ := List.mem_map.mp hd'
    exact List.all_eq_true.mp (List.all_eq_true.mp g3 _ (hmem p hp)) _ (hmem p' hp')
  · refine .inl fun d hd => ?_
    obtain ⟨p, hp, rfl⟩ := List.mem_map.mp hd
    obtain ⟨k, out, _, ek, _, k0⟩ := hkey _ (hmem p hp)
    rw [ek]
    cases k with
    | tup l =>
      cases l with
      | nil => cases k0
      | cons x r => exact ⟨x.py, D.pyL r, rfl⟩
    | _ => cases k0
  · intro p hp
    obtain ⟨k, out, _, ek, kt, _⟩ := hkey _ (hmem p hp)
    have := SeqAt.depth_of_shaped (good_shaped (okT_okN 60 k kt))
    rw [ek]
    have := hr.un
    omega
  · rintro s' h' tk ⟨j1, j2, j3⟩ kp
    refine ⟨j1, j2, fun b o e => ?_⟩
    have hb := Heap.lt_size e
    obtain ⟨k1, sl, k2⟩ := j3 b o e
    exact ⟨fun hn => kp b o hb (k1 hn), sl, kp b _ hb k2⟩
  · rintro v x rx hx s' ⟨j1, j2, j3⟩
    have I' := hinv s' j1 j2 j3
    have hd := hmem x hx
    obtain ⟨k, out, eg, ek, kt, _⟩ := hkey _ hd
    have E0 := (Inv.env0 I').in1.in1
    have hok0 := onlyT_ok I'.hok
    have E1 : Env0 X.prog X.w X.K X.mg X.base X.A.in1.in1 X.stack s' (onlyT H s'.heap) := ⟨E0.frames, E0.mod, fun b o e => ⟨(E0.bs b o e).1, onlyT_none (E0.bs b o e).2⟩, E0.bsz, E0.funs, fun b hb => onlyT_none (E0.frf b hb), hok0, E0.bare⟩
    have hrep : Rep c (fun _ => False) (onlyT H s'.heap) x.1 x.2 := Rep.okT (fun a xs sq => onlyT_sqT I'.hok sq) 60 _ _ (List.all_eq_true.mp g1 _ hd) (hp x hx)
    have hsp : spOf c false g ([x.1] ++ []) (onlyT H s'.heap) (fun v H' => Rep c (fun _ => False) H' v k) (fun _ _ _ => False) := by
      refine ⟨[x.2], fun _ => False, fun _ z => z.elim, .cons hrep .nil, ?_⟩
      rw [eg]
      exact fun v H' _ hn => hn
    have r2 : Vals ([x.1] ++ []) ([v] ++ []) := .cons rx .nil
    have hln : ([v] ++ ([] : List Value)).length = ps.length := by rw [← r2.length]; exact F.len _ _ _ _ hsp
    refine wpAny_call (codeAny_mono (F.run X.A.in1.in1 X.stack s' (onlyT H s'.heap) ⟨[v], []⟩ ([v] ++ []) ([x.1] ++ []) _ _ (Room.in1 (Room.in1 hr)) E1 (hb s' [v] I'.kIn hln) r2 hsp) fun r s'' hq => ?_)
    cases r with
    | error e => exact False.elim hq
    | ok fl =>
      cases fl with
      | ret u =>
        obtain ⟨v', H', os, bare, un, hok', rv', qq⟩ := hq
        have hkb : KB (frs X.stack) s'.heap s''.heap := fun b o e => by
          cases hh : onlyT H s'.heap b with
          | none =>
            obtain ⟨sl, k2⟩ := un.any e hh (fun z => by cases z)
            exact ⟨fun hn => un.keep b o e hh hn (fun z => by cases z), sl, k2⟩
          | some u' =>
            obtain ⟨o', xs', rfl⟩ := onlyT_frz hh
            have h1 := (hok0 b _ hh).1
            rw [e] at h1
            obtain rfl := Option.some.inj h1
            have h2 := (hok' b _ (un.frzs b _ _ hh)).1
            exact ⟨fun _ => h2, o.slots, h2⟩
        refine ⟨⟨os.trans j1, bare, j3.trans hkb⟩, hkb, ?_⟩
        rw [ek]
        have hnf : ∀ b ∈ frs X.stack, H' b = none := fun b hb => by
          obtain ⟨h1, o, h2, _⟩ := I'.stack.mem hb
          exact un.free b o h2 (onlyT_none (hsf b hb)) (fun z => by cases z)
        refine reads_okT (c := c) (P := X.prog) (w := X.w) (fun b o e => ?_) ?_ 60 k v' u kt qq rv'
        · refine (hok' b o e).stay (fun b' u hb' e' => PySem.W.hideAll_get _ e' fun z => ?_) (fun _ q => q) fun _ _ q => q
          have := hnf b' z
          rcases hb' with rfl | hb'
          · rw [this] at e; cases e
          · rw [this] at hb'; cases hb'
        · rw [← hK]
          have hbk : ∀ b o, X.base.get? b = some o → s''.heap.get? b = some o := fun b o e => (hkb b o (I'.bk b o e)).1 fun z => by
            have := (hstk b z).1
            rw [e] at this; cases this
          exact I.ok.mod.kin.keeps fun b o e => PySem.W.hideAll_get _ (hbk b o e) fun z => by
            have := (hstk b z).1
            rw [e] at this; cases this
      | next => exact False.elim hq
      | brk => exact False.elim hq
      | cont => exact False.elim hq
  · rintro out cc s' ⟨j1, j2, j3⟩ ho hlen eo
    have hn := I.hok.fresh (Nat.le_succ s.heap.objs.size)
    have hnn : s.heap.get? (s.heap.objs.size + 1) = none := Heap.get?_none_of_le (Nat.le_succ _)
    have rel := vals_each eo
    have hlz : (((xs.zip ds).mergeSort fun a b => leK g a.2 b.2).map (·.1)).length ≤ sizeLine := by
      rw [List.length_map, List.length_mergeSort, hzl]
      exact hz
    refine ⟨.ref (s.heap.objs.size + 1), upd H (s.heap.objs.size + 1) (.lst (((xs.zip ds).mergeSort fun a b => leK g a.2 b.2).map (·.1))), I.call' (ch := []) j1 ?_ ?_ j2 (fun b z => by cases z), rfl, q _ hn⟩
    · have hne : ∀ b u, H b = some u → b ≠ s.heap.objs.size + 1 := fun b u e z => by rw [z, hn] at e; cases e
      have hne2 : ∀ b o, s.heap.get? b = some o → b ≠ s.heap.objs.size + 1 := fun b o e z => by rw [z, hnn] at e; cases e
      exact ⟨fun b o e _ hb _ => (j3 b o e).1 hb, fun b o e _ _ _ => (j3 b o e).2, fun b o e n _ => by rw [upd_ne (hne2 b o e)]; exact n, fun b o e _ => by
        obtain ⟨sl, k⟩ := (j3 b o e).2
        exact ⟨_, k⟩, fun b xs e => by rw [upd_ne (hne b _ e)]; exact e, fun b o u e => by rw [upd_ne (hne b _ e)]; exact e, fun b ps e => ⟨#[], by rw [upd_ne (hne b _ e), e]; simp⟩⟩
    · have hok' := hook s' j3
      intro b u e
      by_cases hb : b = s.heap.objs.size + 1
      · subst hb
        rw [upd_same] at e
        cases e
        exact ⟨hlz, out, cc, rel, by simpa using ho⟩
      · rw [upd_ne hb] at e
        exact (hok' b u e).stay (fun c v _ q => q) (fun c q => by rw [upd_ne (ne_of_none q hn)]; exact q) fun c xs q => by rw [upd_ne (ne_of_none q hn)]; exact q
end
section
variable {X : Cx} {c : Cc} {E : XK} {e : Expr} {ps : List Pk} {p p2 pos kpos : Pos} {x : Str} {st : Stmt} {qs : List Str} {k j : Nat} {g : FD}
theorem gs_sortK (hK : X.K = c.K) : GSN c (dSortK g) (rSortK X c g) := by
  intro A H vs ds0 fr d Q h e k
  unfold dSortK at e
  split at e
  case h_2 => cases e
  rename_i ds
  split at e
  case isFalse => cases e
  rename_i hg
  cases e
  obtain ⟨v, rfl, hv⟩ := repTs1 h
  obtain ⟨a, xs, rfl, h1, h2⟩ := repT_lst hv
  have hz := repL_zip h2
  refine ⟨a, xs, ds, A, rfl, .inl (.inl h1), h2.len, hz, hg, fun p np => k _ _ (new_lst np ?_)⟩
  have e2 : ((xs.zip ds).mergeSort fun a b => leK g a.2 b.2).map (·.2) = ds.mergeSort (leK g) := by
    rw [List.map_mergeSort (s := leK g) (f := fun p : V × D => p.2) (fun _ _ _ _ => rfl)]
    congr 1
    rw [List.map_snd_zip]
    rw [h2.len]
    exact Nat.le_refl _
  rw [← e2]
  exact repL_pairs fun p hp => hz p (List.mem_mergeSort.mp hp)
theorem b_sortedK (hK : X.K = c.K) (o : Okd X.prog X.w X.K X.mg X.base CX0 c x st qs k false g) (hr : Room j X.A) (hk : k + 2 ≤ j) (hm : X.mg "sorted" = none) (ha : DPs X c E [e] ps) (hgx : Gl X x := by rfl) (hdb : (x == ("__debug__" : Str)) = false := by decide) (hg : Gl X "sorted" := by rfl)
    (he : backTo pos (starEach [e] X.env) = (false, eval e X.env) :: backTo pos (starEach [] X.env) := by rfl) (hpl : (backTo pos (starEach [e] X.env)).any (·.1) = false := by rfl)
    (hall : (backToKw pos (keywordEach [⟨some "key", .Name x p2, kpos⟩] X.env)).all (·.1.isSome) = true := by rfl) (hnone : (backToKw pos (keywordEach [⟨some "key", .Name x p2, kpos⟩] X.env)).any (·.1.isNone) = false := by rfl) (hks : (backToKw pos (keywordEach [⟨some "key", .Name x p2, kpos⟩] X.env)).filterMap (·.1) = [Str.ofString "key"] := by rfl) :
    DE X c E (.Call (.Name "sorted" p) [e] [⟨some "key", .Name x p2, kpos⟩] pos) (opN (dSortK g) ps) := by
  obtain ⟨f, fd, F, hmx, hb, ok⟩ := o
  refine de_opN (gs_sortK hK) ha fun {t} h => ?_
  have := pe_callBK (p := p) (cr_sortK hK ok (hr.mono hk) hb) hg hm (by rfl) h (pk_cons (kpos := kpos) (pe_glob (pos := p2) hgx hmx (show RelV (.ref f) (.ref f) from rfl) hdb) pk_nil) (by decide) (by decide) he hpl hall hnone hks
  exact pe_imp this fun σ H Q hh => by
    have e1 : (fun vs H1 => rSortK X c g vs H1 Q) = fun vs H1 => ([V.ref f] = [V.ref f] ∧ rSortK X c g vs H1 Q) := by
      funext vs H1
      exact propext ⟨fun z => ⟨rfl, z⟩, And.right⟩
    show t σ H (fun vs H1 => [V.ref f] = [V.ref f] ∧ rSortK X c g vs H1 Q)
    rw [← e1]
    exact hh
end
end U
namespace U
set_option autoImplicit false
open PySem L2

section
variable (nn : Nat) (io : Bool) (s : SF) (a b c d e f : D)
@[simp] theorem run0 : runF 0 nn io s [] = finF io (s (List.replicate (nn - 0) none)) := rfl
@[simp] theorem run1 : runF 1 nn io s [a] = finF io (s (some (io, a) :: List.replicate (nn - 1) none)) := rfl
@[simp] theorem run2 : runF 2 nn io s [a, b] = finF io (s (some (io, a) :: some (false, b) :: List.replicate (nn - 2) none)) := rfl
@[simp] theorem run3 : runF 3 nn io s [a, b, c] = finF io (s (some (io, a) :: some (false, b) :: some (false, c) :: List.replicate (nn - 3) none)) := rfl
@[simp] theorem run4 : runF 4 nn io s [a, b, c, d] = finF io (s (some (io, a) :: some (false, b) :: some (false, c) :: some (false, d) :: List.replicate (nn - 4) none)) := rfl
@[simp] theorem run5 : runF 5 nn io s [a, b, c, d, e] = finF io (s (some (io, a) :: some (false, b) :: some (false, c) :: some (false, d) :: some (false, e) :: List.replicate (nn - 5) none)) := rfl
@[simp] theorem run6 : runF 6 nn io s [a, b, c, d, e, f] = finF io (s (some (io, a) :: some (false, b) :: some (false, c) :: some (false, d) :: some (false, e) :: some (false, f) :: List.replicate (nn - 6) none)) := rfl
end
/-! ### ints -/
section
variable (i j : Int) (a b : Bool)
@[simp] theorem v_add : dAdd (.int i) (.int j) = some (false, .int (i + j)) := rfl
@[simp] theorem v_sub : dSub (.int i) (.int j) = some (false, .int (i - j)) := rfl
theorem v_mul (h : bitsOf i + bitsOf j ≤ 1000000) : dMul (.int i) (.int j) = some (false, .int (i * j)) := by unfold dMul; exact if_pos h
theorem v_fdiv (h : j ≠ 0) (h2 : j.natAbs.log2 < 9000) : dFdiv (.int i) (.int j) = some (false, .int (i.fdiv j)) := by
  unfold dFdiv dI2
  dsimp only
  rw [if_pos (by rw [decide_eq_true h, decide_eq_true h2]; rfl)]
theorem v_mod (h : j ≠ 0) : dMod (.int i) (.int j) = some (false, .int (i.fmod j)) := by
  unfold dMod dI2
  dsimp only
  rw [if_pos (by rw [decide_eq_true h])]
@[simp] theorem v_neg : dNeg (.int i) = some (false, .int (-i)) := rfl
@[simp] theorem v_lt : dLt (.int i) (.int j) = some (decide (i < j)) := rfl
@[simp] theorem v_le : dLe (.int i) (.int j) = some (decide (i ≤ j)) := rfl
@[simp] theorem v_gt : dGt (.int i) (.int j) = some (decide (j < i)) := rfl
@[simp] theorem v_ge : dGe (.int i) (.int j) = some (decide (j ≤ i)) := rfl
@[simp] theorem v_abs : dAbs [.int i] = some (false, .int (if i < 0 then -i else i)) := rfl
@[simp] theorem v_int : dInt [.int i] = some (false, .int i) := rfl
@[simp] theorem v_max : dMax2 [.int i, .int j] = some (false, .int (if j > i then j else i)) := rfl
@[simp] theorem v_min : dMin2 [.int i, .int j] = some (false, .int (if j < i then j else i)) := rfl
@[simp] theorem v_lenT (ds : List D) : dLen [.tup ds] = some (false, .int ds.length) := rfl
@[simp] theorem v_lenL (ds : List D) : dLen [.lst ds] = some (false, .int ds.length) := rfl
@[simp] theorem v_lenS (ns : List Int) : dLen [.scr ns] = some (false, .int ns.length) := rfl
theorem goodI : D.good (.int i) = true := rfl
@[simp] theorem v_eq : dEq (.int i) (.int j) = some (i == j) := by
  unfold dEq
  rw [if_pos (by rfl)]
  rfl
@[simp] theorem v_ne : dNe (.int i) (.int j) = some (!(i == j)) := by
  unfold dNe
  rw [if_pos (by rfl)]
  rfl
@[simp] theorem immI : (D.int i).imm = true := rfl
@[simp] theorem immB : (D.bl a).imm = true := rfl
@[simp] theorem immN : D.non.imm = true := rfl
@[simp] theorem immT (ds : List D) : (D.tup ds).imm = D.immL ds := rfl
@[simp] theorem immL0 : D.immL [] = true := rfl
@[simp] theorem immL1 (d : D) (ds : List D) : D.immL (d :: ds) = (d.imm && D.immL ds) := rfl
@[simp] theorem calmL (ds : List D) : (D.lst ds).calm = D.immL ds := rfl
end
theorem bits_le {i : Int} {n : Nat} (h : i.natAbs < 2 ^ n) (h0 : 0 < n) : bitsOf i ≤ n := by
  unfold bitsOf
  by_cases e : i.natAbs = 0
  · rw [e]
    show Nat.log2 0 + 1 ≤ n
    rw [Nat.log2_zero]
    omega
  · have := (Nat.log2_lt e).mpr h
    omega
theorem v_mulS {i j : Int} (h : i.natAbs < 2 ^ 200) (h2 : j.natAbs < 2 ^ 200) : dMul (.int i) (.int j) = some (false, .int (i * j)) :=
  v_mul i j (by have := bits_le h (by decide); have := bits_le h2 (by decide); omega)
theorem log_ok {j : Int} (h : j.natAbs < 2 ^ 200) : j.natAbs.log2 < 9000 := by
  by_cases e : j.natAbs = 0
  · rw [e]; decide
  · have := (Nat.log2_lt e).mpr h
    omega
theorem small_lt {i : Int} (h0 : 0 ≤ i) (h : i < 2 ^ 62) : i.natAbs < 2 ^ 200 := by
  have h1 : i.natAbs < 2 ^ 62 := by omega
  exact Nat.lt_of_lt_of_le h1 (Nat.pow_le_pow_right (by decide) (by decide))
theorem v_mulP {i j : Int} (h0 : 0 ≤ i) (h : i < 2 ^ 62) (h0' : 0 ≤ j) (h' : j < 2 ^ 62) : dMul (.int i) (.int j) = some (false, .int (i * j)) := v_mulS (small_lt h0 h) (small_lt h0' h')
theorem v_fdivP {i j : Int} (h0 : 0 < j) (h : j < 2 ^ 62) : dFdiv (.int i) (.int j) = some (false, .int (i.fdiv j)) := v_fdiv i j (by omega) (log_ok (small_lt (by omega) h))
theorem v_modP {i j : Int} (h0 : 0 < j) : dMod (.int i) (.int j) = some (false, .int (i.fmod j)) := v_mod i j (by omega)
theorem fmod_rg (i : Int) {j : Int} (h : 0 < j) : 0 ≤ i.fmod j ∧ i.fmod j < j := ⟨Int.fmod_nonneg_of_pos i h, Int.fmod_lt_of_pos i h⟩

/-! ### _law_take -/
def lawTake : FD := runF 2 4 true
    (sSeq (sIf (tOp2 dGt (.val (op2 dIx (.var 0) (.val (fC (.int 0))))) (.val (fC (.int 0))))
    (sSeq (sSet 3 (op2 dMod (.val (opN dInt [(.val (op2 dIx (.var 0) (.val (fC (.int 0)))))])) (.var 1)))
    (sSeq (sIx 0 (fC (.int 0)) (op2 dFdiv (.val (op2 dIx (.var 0) (.val (fC (.int 0))))) (.var 1)))
    (sRet (fMv 3))))
    sNil)
    (sSeq (sSet 2 (op2 dMod (.val (opN dInt [(.val (op2 dAdd (.val (op2 dMul (.val (op2 dIx (.var 0) (.val (fC (.int 1))))) (.val (fC (.int 39373))))) (.val (fC (.int 211)))))])) (.val (fC (.int 2147483647)))))
    (sSeq (sIx 0 (fC (.int 1)) (op2 dAdd (.val (op2 dMod (.val (opN dInt [(.val (op2 dAdd (.val (op2 dMul (.var 2) (.val (fC (.int 40692))))) (.val (fC (.int 97)))))])) (.val (fC (.int 2147483563))))) (.val (fC (.int 1)))))
    (sRet (op2 dMod (.val (opN dInt [(.val (op2 dFdiv (.val (op2 dAdd (.val (op2 dMul (.var 2) (.val (fC (.int 2147483629))))) (.val (op2 dIx (.var 0) (.val (fC (.int 1))))))) (.val (fC (.int 8263)))))])) (.var 1))))))
/-- a box: a great number, and one of 32 bits -/
def Bx (d : D) : Prop := ∃ g h : Int, d = .lst [.int g, .int h] ∧ 0 ≤ h ∧ h < 2 ^ 32
@[simp] theorem v_ixT0 (d : D) (ds : List D) : dIx (.tup (d :: ds)) (.int 0) = some (false, d) := by
  simp [dIx, dIxS, atI, ixN]
@[simp] theorem v_ixL0 (d : D) (ds : List D) : dIx (.lst (d :: ds)) (.int 0) = some (false, d) := by
  simp [dIx, dIxS, atI, ixN]
@[simp] theorem v_ixT1 (d e : D) (ds : List D) : dIx (.tup (d :: e :: ds)) (.int 1) = some (false, e) := by
  simp [dIx, dIxS, atI, ixN]
  rw [if_pos (by omega)]
  rfl
@[simp] theorem v_ixL1 (d e : D) (ds : List D) : dIx (.lst (d :: e :: ds)) (.int 1) = some (false, e) := by
  simp [dIx, dIxS, atI, ixN]
  rw [if_pos (by omega)]
  rfl
theorem take_ok {b : D} {many : Int} (hb : Bx b) (h0 : 0 < many) (h1 : many < 2 ^ 62) : ∃ (v : Int) (es : List D), lawTake [b, .int many] = .ok (false, .int v, [.lst es]) ∧ 0 ≤ v ∧ v < many ∧ Bx (.lst es) ∧ D.immL es = true := by
  obtain ⟨g, h, rfl, hh0, hh1⟩ := hb
  unfold lawTake
  rw [run2]
  by_cases hg : 0 < g
  · simp [List.replicate, hg, v_modP h0, v_fdivP h0 h1, ixN, finF, outs]
    exact ⟨_, _, ⟨rfl, rfl⟩, (fmod_rg g h0).1, (fmod_rg g h0).2, ⟨_, _, rfl, hh0, hh1⟩, rfl⟩
  · have hm1 := v_mulP hh0 (by omega : h < 2 ^ 62) (by decide : (0:Int) ≤ 39373) (by decide)
    have r1 := fmod_rg (h * 39373 + 211) (by decide : (0:Int) < 2147483647)
    generalize hr : (h * 39373 + 211).fmod 2147483647 = raw at r1
    have hm2 := v_mulP r1.1 (by omega) (by decide : (0:Int) ≤ 40692) (by decide)
    have hm3 := v_mulP r1.1 (by omega) (by decide : (0:Int) ≤ 2147483629) (by decide)
    have r2 := fmod_rg (raw * 40692 + 97) (by decide : (0:Int) < 2147483563)
    simp [List.replicate, hg, v_modP h0, v_modP (by decide : (0:Int) < 2147483647), v_modP (by decide : (0:Int) < 2147483563), v_fdivP (by decide : (0:Int) < 8263) (by decide), ixN, finF, outs, hm1, hr, hm2, hm3]
    exact ⟨_, _, ⟨rfl, rfl⟩, (fmod_rg _ h0).1, (fmod_rg _ h0).2, ⟨_, _, rfl, by omega, by omega⟩, rfl⟩
end U
namespace U
set_option autoImplicit false
open PySem L2

/-! ### _law_box -/
def lawBox : FD := runF 2 4 false
    (sSeq (sSet 2 (op2 dAdd (.val (op2 dMul (.val (fC (.int 28019))) (.var 1))) (.val (fC (.int 7703)))))
    (sSeq (sIf (tOp2 dLt (.var 1) (.val (opN dLen [(.var 0)])))
    (sSet 2 (opN dAbs [(.val (opN dInt [(.val (op2 dIx (.var 0) (.var 1)))]))]))
    (sIf (tOp2 dGt (.val (opN dLen [(.var 0)])) (.val (fC (.int 0))))
    (sSet 2 (op2 dAdd (.var 2) (.val (op2 dMul (.val (op2 dMod (.val (opN dInt [(.val (opN dAbs [(.val (opN dInt [(.val (op2 dIx (.var 0) (.val (op2 dMod (.val (opN dInt [(.var 1)])) (.val (opN dLen [(.var 0)]))))))]))]))])) (.val (fC (.int 2147483563))))) (.val (fC (.int 97813)))))))
    sNil))
    (sSeq (sSet 3 (fIf (tOp2 dGe (.var 2) (.val (op2 dPow (.val (fC (.int 10))) (.val (fC (.int 18)))))) (fVar 2) (fC (.int 0))))
    (sRet (fLst [(fVar 3), (op2 dAdd (.val (op2 dMod (.val (opN dInt [(.val (op2 dAdd (.val (op2 dMul (.val (op2 dMod (.val (opN dInt [(.var 2)])) (.val (fC (.int 2147483563))))) (.val (fC (.int 54250003))))) (.val (op2 dMul (.val (fC (.int 7703))) (.var 1)))))])) (.val (fC (.int 2147483563))))) (.val (fC (.int 1))))])))))
theorem v_ixS {ns : List Int} {k : Int} (h0 : 0 ≤ k) (h : k < ns.length) : ∃ z, dIx (.scr ns) (.int k) = some (false, .int z) := by
  have hk : k.toNat < ns.length := by omega
  refine ⟨ns[k.toNat], ?_⟩
  simp [dIx, dIxS, atI, ixN, h0, h]
@[simp] theorem v_pow18 : dPow (.int 10) (.int 18) = some (false, .int 1000000000000000000) := by rfl
theorem box_tail (x : D) (cell k : Int) (hk0 : 0 ≤ k) (hk : k < 1000) : ∃ es, finF false ((sSeq (sSet 3 (fIf (tOp2 dGe (.var 2) (.val (op2 dPow (.val (fC (.int 10))) (.val (fC (.int 18)))))) (fVar 2) (fC (.int 0))))
    (sRet (fLst [(fVar 3), (op2 dAdd (.val (op2 dMod (.val (opN dInt [(.val (op2 dAdd (.val (op2 dMul (.val (op2 dMod (.val (opN dInt [(.var 2)])) (.val (fC (.int 2147483563))))) (.val (fC (.int 54250003))))) (.val (op2 dMul (.val (fC (.int 7703))) (.var 1)))))])) (.val (fC (.int 2147483563))))) (.val (fC (.int 1))))]))) [some (false, x), some (false, .int k), some (false, .int cell), none]) = .ok (true, .lst es, []) ∧ Bx (.lst es) ∧ D.immL es = true := by
  have r1 := fmod_rg cell (by decide : (0:Int) < 2147483563)
  have hm := v_modP (i := cell) (by decide : (0:Int) < 2147483563)
  generalize cell.fmod 2147483563 = c1 at r1 hm
  have hm1 := v_mulP r1.1 (by omega) (by decide : (0:Int) ≤ 54250003) (by decide)
  have hm2 := v_mulP (by decide : (0:Int) ≤ 7703) (by decide) hk0 (by omega : k < 2 ^ 62)
  have r2 := fmod_rg (c1 * 54250003 + 7703 * k) (by decide : (0:Int) < 2147483563)
  by_cases hc : 1000000000000000000 ≤ cell
  · simp [hc, hm, hm1, hm2, v_modP (by decide : (0:Int) < 2147483563), finF, outs]
    exact ⟨_, _, rfl, by omega, by omega⟩
  · simp [hc, hm, hm1, hm2, v_modP (by decide : (0:Int) < 2147483563), finF, outs]
    exact ⟨_, _, rfl, by omega, by omega⟩
theorem box_ok (ns : List Int) (k : Int) (hk0 : 0 ≤ k) (hk : k < 1000) : ∃ es, lawBox [.scr ns, .int k] = .ok (true, .lst es, []) ∧ Bx (.lst es) ∧ D.immL es = true := by
  unfold lawBox
  rw [run2]
  have hm0 := v_mulP (by decide : (0:Int) ≤ 28019) (by decide) hk0 (by omega : k < 2 ^ 62)
  by_cases h1 : k < ns.length
  · obtain ⟨z, hz⟩ := v_ixS hk0 h1
    obtain ⟨es, e, h⟩ := box_tail (.scr ns) (if z < 0 then -z else z) k hk0 hk
    refine ⟨es, ?_, h⟩
    rw [← e]
    simp [List.replicate, h1, hz, hm0]
  · by_cases h2 : 0 < ns.length
    · have hl : (0 : Int) < ns.length := by omega
      have r3 := fmod_rg k hl
      obtain ⟨z, hz⟩ := v_ixS r3.1 r3.2
      have r4 := fmod_rg (if z < 0 then -z else z) (by decide : (0:Int) < 2147483563)
      have hm4 := v_modP (i := (if z < 0 then -z else z)) (by decide : (0:Int) < 2147483563)
      obtain ⟨es, e, h⟩ := box_tail (.scr ns) (28019 * k + 7703 + (if z < 0 then -z else z).fmod 2147483563 * 97813) k hk0 hk
      refine ⟨es, ?_, h⟩
      rw [← e]
      have hm5 := v_mulP r4.1 (by omega) (by decide : (0:Int) ≤ 97813) (by decide)
      have h2' : ¬ ns = [] := fun z => by rw [z] at h2; exact absurd h2 (by decide)
      simp [List.replicate, hm0, h1, h2, h2', hz, v_modP hl, hm4, hm5]
    · obtain ⟨es, e, h⟩ := box_tail (.scr ns) (28019 * k + 7703) k hk0 hk
      refine ⟨es, ?_, h⟩
      rw [← e]
      have h2' : ns = [] := List.eq_nil_of_length_eq_zero (by omega)
      subst h2'
      simp [List.replicate, hm0, show ¬ k < 0 by omega]

/-! ### _law_pick -/
def lawPick : FD := runF 2 2 true (sRet (op2 dIx (.var 1) (.val (fCallIO lawTake 0 [(.val (opN dLen [(.var 1)]))]))))
theorem v_ixL {ds : List D} {k : Int} (h0 : 0 ≤ k) (h : k < ds.length) : ∃ z, z ∈ ds ∧ dIx (.lst ds) (.int k) = some (false, z) := by
  have hk : k.toNat < ds.length := by omega
  refine ⟨ds[k.toNat], List.getElem_mem hk, ?_⟩
  simp [dIx, dIxS, atI, ixN, h0, h]
theorem v_ixT {ds : List D} {k : Int} (h0 : 0 ≤ k) (h : k < ds.length) : ∃ z, z ∈ ds ∧ dIx (.tup ds) (.int k) = some (false, z) := by
  have hk : k.toNat < ds.length := by omega
  refine ⟨ds[k.toNat], List.getElem_mem hk, ?_⟩
  simp [dIx, dIxS, atI, ixN, h0, h]
theorem pickL_ok {b : D} {xs : List D} (hb : Bx b) (h0 : xs ≠ []) (h1 : xs.length < 2 ^ 62) : ∃ (v : D) (es : List D), lawPick [b, .lst xs] = .ok (false, v, [.lst es]) ∧ v ∈ xs ∧ Bx (.lst es) ∧ D.immL es = true := by
  have hl : 0 < xs.length := List.length_pos_iff.mpr h0
  obtain ⟨v, es, e, v0, v1, hb', hi⟩ := take_ok hb (many := xs.length) (by omega) (by omega)
  obtain ⟨z, hz, ez⟩ := v_ixL v0 v1
  refine ⟨z, es, ?_, hz, hb', hi⟩
  obtain ⟨g, h, rfl, _⟩ := hb
  unfold lawPick
  rw [run2]
  simp [List.replicate, e, hi, ez, finF, outs]
theorem pickT_ok {b : D} {xs : List D} (hb : Bx b) (h0 : xs ≠ []) (h1 : xs.length < 2 ^ 62) : ∃ (v : D) (es : List D), lawPick [b, .tup xs] = .ok (false, v, [.lst es]) ∧ v ∈ xs ∧ Bx (.lst es) ∧ D.immL es = true := by
  have hl : 0 < xs.length := List.length_pos_iff.mpr h0
  obtain ⟨v, es, e, v0, v1, hb', hi⟩ := take_ok hb (many := xs.length) (by omega) (by omega)
  obtain ⟨z, hz, ez⟩ := v_ixT v0 v1
  refine ⟨z, es, ?_, hz, hb', hi⟩
  obtain ⟨g, h, rfl, _⟩ := hb
  unfold lawPick
  rw [run2]
  simp [List.replicate, e, hi, ez, finF, outs]

/-! ### _law_same -/
def bSame (dn : FD) : SF :=
    (sSeq (sIf (tOf (.val (op1 (dIsi "tuple") (.var 1))))
    (sSeq (sIf (tOr' (tNo (tOf (.val (op1 (dIsi "tuple") (.var 0))))) (tOp2 dNe (.val (opN dLen [(.var 0)])) (.val (opN dLen [(.var 1)]))))
    (sRet (fC (.bl false)))
    sNil)
    (sSeq (sFor (fZip (fVar 0) (fVar 1)) (gT [(gN 2), (gN 3)])
    (sIf (tNo (tOf (.val (fCall dn [(.var 2), (.var 3)]))))
    (sRet (fC (.bl false)))
    sNil))
    (sRet (fC (.bl true)))))
    sNil)
    (sSeq (sIf (tOp2 dIsN (.var 1) (.val (fC .non)))
    (sRet (op2 (blO dIsN) (.var 0) (.val (fC .non))))
    sNil)
    (sSeq (sIf (tOr' (tOp2 dIsB (.var 1) (.val (fC (.bl true)))) (tOp2 dIsB (.var 1) (.val (fC (.bl false)))))
    (sRet (fAnd (.val (op1 (dIsi "bool") (.var 0))) (op2 (blO dEq) (.var 0) (.var 1))))
    sNil)
    (sSeq (sIf (tOf (.val (op1 (dIsi "int") (.var 1))))
    (sRet (fAnd (.val (op1 (dIsi "int") (.var 0))) (fAnd (.val (fNot (.val (op1 (dIsi "bool") (.var 0))))) (op2 (blO dEq) (.var 0) (.var 1)))))
    sNil)
    (sRet (fAnd (.val (op1 (dIsi "str") (.var 0))) (fAnd (.val (op1 (dIsi "str") (.var 1))) (op2 (blO dEq) (.var 0) (.var 1)))))))))
def lawSame : Nat → FD
  | 0 => fun _ => .bad
  | n + 1 => runF 2 4 false (bSame (lawSame n))
/-- made of None, bools, ints, texts and tuples -/
def D.pl : Nat → D → Bool
  | _, .non => true
  | _, .bl _ => true
  | _, .int _ => true
  | _, .str x => PyData.strOk x
  | n + 1, .tup ds => ds.all (D.pl n)
  | _, _ => false
theorem isi_tup (T : String) (ds : List D) : dIsi T (.tup ds) = some (false, .bl (isTy T "tuple")) := rfl
@[simp] theorem i1 : isTy "tuple" "tuple" = true := by decide
@[simp] theorem i2 : isTy "tuple" "int" = false := by decide
@[simp] theorem i3 : isTy "tuple" "bool" = false := by decide
@[simp] theorem i4 : isTy "tuple" "str" = false := by decide
@[simp] theorem i5 : isTy "tuple" "NoneType" = false := by decide
@[simp] theorem i6 : isTy "bool" "bool" = true := by decide
@[simp] theorem i7 : isTy "int" "int" = true := by decide
@[simp] theorem i8 : isTy "int" "str" = false := by decide
@[simp] theorem i9 : isTy "str" "str" = true := by decide
@[simp] theorem i10 : isTy "bool" "int" = false := by decide
@[simp] theorem i11 : isTy "int" "bool" = true := by decide
@[simp] theorem isi1 (T : String) (ds : List D) : dIsi T (.tup ds) = some (false, .bl (isTy T "tuple")) := rfl
@[simp] theorem isi2 (T : String) (i : Int) : dIsi T (.int i) = some (false, .bl (isTy T "int")) := rfl
@[simp] theorem isi3 (T : String) (b : Bool) : dIsi T (.bl b) = some (false, .bl (isTy T "bool")) := rfl
@[simp] theorem isi4 (T : String) (x : Str) : dIsi T (.str x) = some (false, .bl (isTy T "str")) := rfl
@[simp] theorem isi5 (T : String) : dIsi T .non = some (false, .bl (isTy T "NoneType")) := rfl
@[simp] theorem isi6 (T : String) (ds : List D) : dIsi T (.lst ds) = some (false, .bl (isTy T "list")) := rfl
theorem eq_bl (b : Bool) : dEq (.bl b) (.bl b) = some true := by cases b <;> rfl
theorem zp_self : ∀ ds : List D, zpD ds ds = ds.map fun d => .tup [d, d]
  | [] => rfl
  | d :: ds => by rw [zpD, zp_self ds, List.map_cons]
theorem same_ok : ∀ (n : Nat) (d : D), D.pl n d = true → lawSame (n + 1) [d, d] = .ok (false, .bl true, [])
  | n, .non, _ => by
    unfold lawSame bSame
    rw [run2]
    simp [List.replicate, finF, outs, dIsN, D.isNon]
  | n, .bl b, _ => by
    unfold lawSame bSame
    rw [run2]
    cases b <;> simp [List.replicate, finF, outs, dIsN, D.isNon, dIsB, D.isB, eq_bl]
  | n, .int i, _ => by
    unfold lawSame bSame
    rw [run2]
    simp [List.replicate, finF, outs, dIsN, D.isNon, dIsB, D.isB]
  | n, .str x, h => by
    have hg : D.good (.str x) = true := by
      cases n <;> exact h
    have he : dEq (.str x) (.str x) = some true := by
      unfold dEq
      rw [hg]
      show some (eqD _ _) = _
      unfold eqD
      simp
    unfold lawSame bSame
    rw [run2]
    simp [List.replicate, finF, outs, dIsN, D.isNon, dIsB, D.isB, he]
  | n + 1, .tup ds, h => by
    have h : ds.all (D.pl n) = true := h
    have loop : (forL (gT [(gN 2), (gN 3)]) (sIf (tNo (tOf (.val (fCall (lawSame (n + 1)) [(.var 2), (.var 3)])))) (sRet (fC (.bl false))) sNil) (zpD ds ds) [some (false, .tup ds), some (false, .tup ds), none, none]).wp (fun r => r.1 = .nx ∧ r.2.length = 4) := by
      refine forL_wp (fun l ρ => (∀ x ∈ l, ∃ d ∈ ds, x = .tup [d, d]) ∧ ∃ a b c e, ρ = [a, b, c, e]) (fun x l ρ hI => ?_) (fun ρ hI => ?_) _ _ ⟨fun x hx => ?_, _, _, _, _, rfl⟩
      · obtain ⟨h1, a, b, c, e, rfl⟩ := hI
        obtain ⟨d, hd, rfl⟩ := h1 _ List.mem_cons_self
        have := same_ok n d (List.all_eq_true.mp h d hd)
        refine ⟨[a, b, some (false, d), some (false, d)], by simp, ?_⟩
        simp [this]
        exact fun x hx => h1 x (List.mem_cons_of_mem _ hx)
      · obtain ⟨_, a, b, c, e, rfl⟩ := hI
        exact ⟨rfl, rfl⟩
      · rw [zp_self] at hx
        obtain ⟨d, hd, rfl⟩ := List.mem_map.mp hx
        exact ⟨d, hd, rfl⟩
    obtain ⟨r, er, h1, h2⟩ := O.wp_ex loop
    obtain ⟨fl, ρ⟩ := r
    cases h1
    unfold lawSame bSame
    rw [run2]
    simp [List.replicate, finF, outs, er, D.isTup]
  | 0, .tup ds, h => by cases h
  | 0, .lst ds, h => by cases h
  | n + 1, .lst ds, h => by cases h
  | 0, .dic _ _, h => by cases h
  | n + 1, .dic _ _, h => by cases h
  | 0, .fn _, h => by cases h
  | n + 1, .fn _, h => by cases h
  | 0, .exc _ _, h => by cases h
  | n + 1, .exc _ _, h => by cases h
  | 0, .scr _, h => by cases h
  | n + 1, .scr _, h => by cases h
end U
namespace U
set_option autoImplicit false
open PySem L2

/-! ### systems as data -/
def iT (r : List Int) : D := .tup (r.map .int)
def sysD (many : Int) (rows : List (List Int)) : D := .tup [.int many, .tup (rows.map iT)]
structure SysOk (many : Int) (rows : List (List Int)) : Prop where
  lo : 1 ≤ many
  hi : many ≤ 1000
  nr : rows.length ≤ 1000
  len : ∀ r ∈ rows, (r.length : Int) = many
  rg : ∀ r ∈ rows, ∀ z ∈ r, 0 ≤ z ∧ z < many
def act (rows : List (List Int)) (d b : Int) : Int := (rows.getD d.toNat []).getD b.toNat 0
def RunOk (rows : List (List Int)) (run : List Int) : Prop := ∀ d ∈ run, 0 ≤ d ∧ d < rows.length
theorem imm_ints : ∀ r : List Int, D.immL (r.map .int) = true
  | [] => rfl
  | _ :: r => imm_ints r
@[simp] theorem imm_iT (r : List Int) : (iT r).imm = true := imm_ints r
@[simp] theorem imm_ints' (r : List Int) : D.immL (r.map .int) = true := imm_ints r
theorem imm_rows : ∀ rows : List (List Int), D.immL (rows.map iT) = true
  | [] => rfl
  | r :: rows => by
    rw [List.map_cons, immL1, imm_iT, imm_rows rows]; rfl
@[simp] theorem imm_sys (many : Int) (rows : List (List Int)) : (sysD many rows).imm = true := by
  unfold sysD
  rw [immT, immL1, immL1, immT, imm_rows]; rfl
theorem v_ixI {r : List Int} {k : Int} (h0 : 0 ≤ k) (h : k < r.length) : dIx (iT r) (.int k) = some (false, .int (r.getD k.toNat 0)) := by
  have hk : k.toNat < r.length := by omega
  simp [iT, dIx, dIxS, atI, ixN, h0, h, hk]
theorem v_ixIL {r : List Int} {k : Int} (h0 : 0 ≤ k) (h : k < r.length) : dIx (.lst (r.map .int)) (.int k) = some (false, .int (r.getD k.toNat 0)) := by
  have hk : k.toNat < r.length := by omega
  simp [dIx, dIxS, atI, ixN, h0, h, hk]
theorem v_ixR {rows : List (List Int)} {k : Int} (h0 : 0 ≤ k) (h : k < rows.length) : dIx (.tup (rows.map iT)) (.int k) = some (false, iT (rows.getD k.toNat [])) := by
  have hk : k.toNat < rows.length := by omega
  simp [dIx, dIxS, atI, ixN, h0, h, hk]
@[simp] theorem v_sys0 (many : Int) (rows : List (List Int)) : dIx (sysD many rows) (.int 0) = some (false, .int many) := v_ixT0 _ _
@[simp] theorem v_sys1 (many : Int) (rows : List (List Int)) : dIx (sysD many rows) (.int 1) = some (false, .tup (rows.map iT)) := v_ixT1 _ _ _
section
variable {many : Int} {rows : List (List Int)}
theorem row_mem {d : Int} (h0 : 0 ≤ d) (h : d < rows.length) : rows.getD d.toNat [] ∈ rows := by
  have hk : d.toNat < rows.length := by omega
  simp [hk]
theorem act_rg (S : SysOk many rows) {d b : Int} (d0 : 0 ≤ d) (d1 : d < rows.length) (b0 : 0 ≤ b) (b1 : b < many) : 0 ≤ act rows d b ∧ act rows d b < many := by
  have hm := row_mem d0 d1
  have hl := S.len _ hm
  have hk : b.toNat < (rows.getD d.toNat []).length := by omega
  unfold act
  have e : (rows.getD d.toNat []).getD b.toNat 0 = (rows.getD d.toNat [])[b.toNat] := by rw [List.getD_eq_getElem?_getD (l := rows.getD d.toNat []), List.getElem?_eq_getElem hk]; rfl
  rw [e]
  exact S.rg _ hm _ (List.getElem_mem hk)
theorem v_act (S : SysOk many rows) {d b : Int} (d0 : 0 ≤ d) (d1 : d < rows.length) (b0 : 0 ≤ b) (b1 : b < many) : dIx (iT (rows.getD d.toNat [])) (.int b) = some (false, .int (act rows d b)) :=
  v_ixI b0 (by rw [S.len _ (row_mem d0 d1)]; exact b1)
/-- the board behind a run -/
def goes (rows : List (List Int)) (run : List Int) (b : Int) : Int := run.foldl (fun b d => act rows d b) b
theorem goes_rg (S : SysOk many rows) : ∀ {run : List Int} {b : Int}, RunOk rows run → 0 ≤ b → b < many → 0 ≤ goes rows run b ∧ goes rows run b < many
  | [], b, _, h0, h1 => ⟨h0, h1⟩
  | d :: run, b, h, h0, h1 => by
    have hd := h d List.mem_cons_self
    have := act_rg S hd.1 hd.2 h0 h1
    exact goes_rg S (run := run) (fun x hx => h x (List.mem_cons_of_mem _ hx)) this.1 this.2
/-! ### done -/
def bDone : SF := (sSeq (sFor (fIt (fVar 1)) (gN 3)
    (sSet 2 (op2 dIx (.val (op2 dIx (.val (op2 dIx (.var 0) (.val (fC (.int 1))))) (.var 3))) (.var 2))))
    (sRet (fMv 2)))
def fDone : FD := runF 3 4 false bDone
theorem done_ok (S : SysOk many rows) {run : List Int} (hr : RunOk rows run) {b : Int} (h0 : 0 ≤ b) (h1 : b < many) : fDone [sysD many rows, iT run, .int b] = .ok (false, .int (goes rows run b), []) := by
  have loop : (forL (gN 3) (sSet 2 (op2 dIx (.val (op2 dIx (.val (op2 dIx (.var 0) (.val (fC (.int 1))))) (.var 3))) (.var 2))) (run.map .int) [some (false, sysD many rows), some (false, iT run), some (false, .int b), none]).wp (fun r => r.1 = .nx ∧ ∃ a c d, r.2 = [a, c, some (false, .int (goes rows run b)), d]) := by
    refine forL_wp (fun l ρ => ∃ run' b' x, l = run'.map .int ∧ RunOk rows run' ∧ 0 ≤ b' ∧ b' < many ∧ ρ = [some (false, sysD many rows), some (false, iT run), some (false, .int b'), x] ∧ goes rows run' b' = goes rows run b) (fun x l ρ hI => ?_) (fun ρ hI => ?_) _ _ ⟨run, b, none, rfl, hr, h0, h1, rfl, rfl⟩
    · obtain ⟨run', b', y, e, k1, k2, k3, rfl, k4⟩ := hI
      cases run' with
      | nil => cases e
      | cons d run' =>
        rw [List.map_cons] at e
        cases e
        have hd := k1 d List.mem_cons_self
        have hrg := act_rg S hd.1 hd.2 k2 k3
        refine ⟨_, rfl, ?_⟩
        simp [v_ixR hd.1 hd.2, v_act S hd.1 hd.2 k2 k3, -List.getD_eq_getElem?_getD]
        exact ⟨run', rfl, fun z hz => k1 z (List.mem_cons_of_mem _ hz), _, hrg.1, hrg.2, rfl, k4⟩
    · obtain ⟨run', b', y, e, k1, k2, k3, rfl, k4⟩ := hI
      cases run' with
      | nil => exact ⟨rfl, _, _, _, by rw [← k4]; rfl⟩
      | cons d run' => cases e
  obtain ⟨⟨fl, ρ⟩, er, h2, a, c, d, h3⟩ := O.wp_ex loop
  cases h2
  dsimp only at h3
  subst h3
  unfold fDone bDone
  rw [run3]
  simp [List.replicate, finF, outs, iT] at er ⊢
  simp [er]
end
end U
namespace U
set_option autoImplicit false
open PySem L2

/-! ### rules for comprehensions -/
theorem back_same {ρ1 ρ' : En} {vs : List Nat} (h : wipeE ρ' vs = wipeE ρ1 vs) : backE ρ1 ρ' vs = ρ1 := by
  have hl : ρ1.length = ρ'.length := by
    have := congrArg List.length h
    rw [wipeE_len, wipeE_len] at this
    exact this.symm
  apply List.ext_getElem?
  intro j
  rw [backE_get vs ρ1 ρ' j hl]
  split
  · rfl
  · rename_i hj
    have := congrArg (fun l : En => l[j]?) h
    rw [wipeE_get, wipeE_get, if_neg fun z => hj z.1, if_neg fun z => hj z.1] at this
    exact this
/-- the comprehension's own slots apart, the slots are as in ρ1 but for slot i -/
theorem back_set {ρ1 ρ' : En} {vs : List Nat} {i : Nat} {x : Option (Bool × D)} (hi : i ∉ vs) (h : wipeE ρ' vs = wipeE (ρ1.set i x) vs) : backE ρ1 ρ' vs = ρ1.set i x := by
  have hl : ρ1.length = ρ'.length := by
    have := congrArg List.length h
    rw [wipeE_len, wipeE_len, List.length_set] at this
    exact this.symm
  apply List.ext_getElem?
  intro j
  rw [backE_get vs ρ1 ρ' j hl]
  split
  · rename_i hj
    rw [List.getElem?_set_ne fun z => hi (by rw [z]; exact hj)]
  · rename_i hj
    have := congrArg (fun l : En => l[j]?) h
    rw [wipeE_get, wipeE_get, if_neg fun z => hj z.1, if_neg fun z => hj z.1] at this
    exact this
section
variable {vs : List Nat} {fi : IF} {t : Tg} {cs : TF} {f : EF} {ρ ρ1 : En} {ds : List D}
/-- each turn leaves all but the own slots as they are: the tests by p, the items by g -/
theorem fLc_filter (p : D → Bool) (g : D → D) (hfi : fi ρ = .ok (ds, ρ1)) (hno : noOwn ρ1 vs = true) (hlen : ds.length ≤ 16777216)
    (hs : ∀ d ∈ ds, ∃ ρ2 ρ3, t d (wipeE ρ1 vs) = some ρ2 ∧ cs ρ2 = .ok (p d, ρ3) ∧ (p d = false → wipeE ρ3 vs = wipeE ρ1 vs) ∧ (p d = true → ∃ fr ρ4, f ρ3 = .ok (fr, g d, ρ4) ∧ wipeE ρ4 vs = wipeE ρ1 vs)) :
    fLc vs fi t cs f ρ = .ok (true, .lst ((ds.filter p).map g), ρ1) := by
  obtain ⟨w, e, q⟩ := O.wp_ex (o := fLc vs fi t cs f ρ) (Q := fun w => w = (true, .lst ((ds.filter p).map g), ρ1)) (by
    refine fLc_wp (fun acc l ρ' => wipeE ρ' vs = wipeE ρ1 vs ∧ (∀ d ∈ l, d ∈ ds) ∧ acc ++ (l.filter p).map g = (ds.filter p).map g) (O.wp_of hfi ⟨hno, hlen, ⟨rfl, fun _ h => h, rfl⟩, fun l ρ2 h => ?_⟩) fun acc d l ρ' h => ?_
    · obtain ⟨h1, _, h3⟩ := h
      rw [back_same h1]
      simp at h3
      rw [h3]
    · obtain ⟨h1, h2, h3⟩ := h
      rw [h1]
      obtain ⟨ρ2, ρ3, e1, e2, e3, e4⟩ := hs d (h2 d List.mem_cons_self)
      refine ⟨ρ2, e1, O.wp_of e2 ?_⟩
      dsimp only
      cases hp : p d with
      | false =>
        rw [if_neg Bool.false_ne_true]
        refine ⟨e3 hp, fun x hx => h2 x (List.mem_cons_of_mem _ hx), ?_⟩
        rw [← h3, List.filter_cons_of_neg (by rw [hp]; exact Bool.false_ne_true)]
      | true =>
        rw [if_pos rfl]
        obtain ⟨fr, ρ4, e5, e6⟩ := e4 hp
        refine O.wp_of e5 ⟨e6, fun x hx => h2 x (List.mem_cons_of_mem _ hx), ?_⟩
        rw [← h3, List.filter_cons_of_pos (by rw [hp])]
        simp)
  rw [e, q]
theorem fLc_map (g : D → D) (hfi : fi ρ = .ok (ds, ρ1)) (hno : noOwn ρ1 vs = true) (hlen : ds.length ≤ 16777216)
    (hs : ∀ d ∈ ds, ∃ ρ2 fr ρ4, t d (wipeE ρ1 vs) = some ρ2 ∧ f ρ2 = .ok (fr, g d, ρ4) ∧ wipeE ρ4 vs = wipeE ρ1 vs) : fLc vs fi t (tAll []) f ρ = .ok (true, .lst (ds.map g), ρ1) := by
  have := fLc_filter (vs := vs) (fi := fi) (t := t) (cs := tAll []) (f := f) (ρ := ρ) (fun _ => true) g hfi hno hlen fun d hd => by
    obtain ⟨ρ2, fr, ρ4, e1, e2, e3⟩ := hs d hd
    exact ⟨ρ2, ρ2, e1, rfl, fun z => Bool.noConfusion z, fun _ => ⟨fr, ρ4, e2, e3⟩⟩
  rw [this]
  have e : ds.filter (fun _ => true) = ds := by rw [List.filter_eq_self]; exact fun _ _ => rfl
  rw [e]
/-- a box that is drawn from at each turn -/
def BxI (es : List D) : Prop := Bx (.lst es) ∧ D.immL es = true
theorem fLc_box {ib : Nat} (P : D → Prop) (hib : ib ∉ vs) (hfi : fi ρ = .ok (ds, ρ1)) (hno : noOwn ρ1 vs = true) (hlen : ds.length ≤ 16777216) {es0 : List D} (h0 : ρ1[ib]? = some (some (true, .lst es0))) (hb : BxI es0)
    (hs : ∀ d ∈ ds, ∀ es, BxI es → ∃ ρ2 fr x ρ3 es', t d (wipeE (ρ1.set ib (some (true, .lst es))) vs) = some ρ2 ∧ f ρ2 = .ok (fr, x, ρ3) ∧ P x ∧ BxI es' ∧ wipeE ρ3 vs = wipeE (ρ1.set ib (some (true, .lst es'))) vs) :
    ∃ l es', fLc vs fi t (tAll []) f ρ = .ok (true, .lst l, ρ1.set ib (some (true, .lst es'))) ∧ l.length = ds.length ∧ (∀ x ∈ l, P x) ∧ BxI es' := by
  have hset : ρ1.set ib (some (true, .lst es0)) = ρ1 := by
    apply List.ext_getElem?
    intro j
    by_cases e : ib = j
    · subst e
      have hl : ib < ρ1.length := by
        by_cases k : ib < ρ1.length
        · exact k
        · rw [List.getElem?_eq_none (by omega)] at h0; cases h0
      rw [List.getElem?_set_self hl, h0]
    · rw [List.getElem?_set_ne e]
  obtain ⟨w, e, l, es', q1, q2, q3, q4⟩ := O.wp_ex (o := fLc vs fi t (tAll []) f ρ) (Q := fun w => ∃ l es', w = (true, .lst l, ρ1.set ib (some (true, .lst es'))) ∧ l.length = ds.length ∧ (∀ x ∈ l, P x) ∧ BxI es') (by
    refine fLc_wp (fun acc l ρ' => (∃ es, BxI es ∧ wipeE ρ' vs = wipeE (ρ1.set ib (some (true, .lst es))) vs) ∧ (∀ d ∈ l, d ∈ ds) ∧ acc.length + l.length = ds.length ∧ ∀ x ∈ acc, P x) (O.wp_of hfi ⟨hno, hlen, ⟨⟨es0, hb, by rw [hset]⟩, fun _ h => h, by simp, fun x hx => nomatch hx⟩, fun l ρ2 h => ?_⟩) fun acc d l ρ' h => ?_
    · obtain ⟨⟨es, h1, h2⟩, _, h3, h4⟩ := h
      exact ⟨l, es, by rw [back_set hib h2], by simpa using h3, h4, h1⟩
    · obtain ⟨⟨es, h1, h2⟩, h3, h4, h5⟩ := h
      obtain ⟨ρ2, fr, x, ρ3, es', e1, e2, e3, e4, e5⟩ := hs d (h3 d List.mem_cons_self) es h1
      rw [h2]
      refine ⟨ρ2, e1, ?_⟩
      show (O.ok (true, ρ2)).wp _
      rw [O.wp_ok, if_pos rfl]
      refine O.wp_of e2 ⟨⟨es', e4, e5⟩, fun x hx => h3 x (List.mem_cons_of_mem _ hx), by simp at h4 ⊢; omega, fun y hy => ?_⟩
      rcases List.mem_append.mp hy with z | z
      · exact h5 y z
      · rw [List.mem_singleton.mp z]; exact e3)
  exact ⟨l, es', by rw [e, q1], q2, q3, q4⟩
end
/-! ### sequences of statements -/
section
variable {s t : SF} {i : Nat} {f : EF} {ρ : En} {Q : Fl × En → Prop}
theorem seq_wp (h : (s ρ).wp fun r => r.1 = .nx ∧ (t r.2).wp Q) : (sSeq s t ρ).wp Q := by
  rw [r_seq]
  refine O.wp_bind (O.wp_mono h fun r h => ?_)
  obtain ⟨h1, h2⟩ := h
  rw [h1]
  exact h2
theorem seq_set {fr : Bool} {d : D} {ρ' : En} (e : f ρ = .ok (fr, d, ρ')) (h : (t (ρ'.set i (some (fr, d)))).wp Q) : (sSeq (sSet i f) t ρ).wp Q := seq_wp (by
  rw [r_set, e]
  exact ⟨rfl, h⟩)
theorem seq_nx {ρ' : En} (e : s ρ = .ok (.nx, ρ')) (h : (t ρ').wp Q) : (sSeq s t ρ).wp Q := seq_wp (by rw [e]; exact ⟨rfl, h⟩)
end
/-- 0, 1, .. n - 1 -/
def ups (n : Nat) : List Int := (List.range n).map fun (i : Nat) => (i : Int)
theorem rgD_ups (n : Nat) : rgD 0 1 n = (ups n).map .int := by
  unfold rgD ups
  rw [List.map_map]
  refine List.map_congr_left fun i _ => ?_
  show D.int (0 + (i : Int) * 1) = D.int (i : Int)
  rw [Int.zero_add, Int.mul_one]
theorem ups_mem {n : Nat} {b : Int} (h : b ∈ ups n) : 0 ≤ b ∧ b < n := by
  unfold ups at h
  obtain ⟨i, h1, rfl⟩ := List.mem_map.mp h
  have := List.mem_range.mp h1
  omega
@[simp] theorem ups_len (n : Nat) : (ups n).length = n := by unfold ups; simp
theorem rg1_ok {j : Int} (h0 : 0 ≤ j) (h : j < 2 ^ 62) : rg1 [.int j] = some ((ups j.toNat).map .int) := by
  unfold rg1
  dsimp only
  rw [if_pos (by unfold small62; exact decide_eq_true (by omega)), rgD_ups]
theorem lstRg_ok {j : Int} (h0 : 0 ≤ j) (h : j ≤ 16777216) : dLstRg (.int j) = some (true, .lst ((ups j.toNat).map .int)) := by
  unfold dLstRg
  dsimp only
  rw [if_pos (by unfold rgOkB; rw [decide_eq_true (by omega), decide_eq_true (by omega), decide_eq_true (by omega)]; rfl), Int.sub_zero, rgD_ups]
@[simp] theorem v_tupleL (ds : List D) : dTuple [.lst ds] = some (false, .tup ds) := rfl
@[simp] theorem v_tupleT (ds : List D) : dTuple [.tup ds] = some (false, .tup ds) := rfl
end U
namespace U
set_option autoImplicit false
open PySem L2

section
variable {many : Int} {rows : List (List Int)}
/-! ### run_map, _law_map -/
/-- where a run leads each board -/
def mapOf (many : Int) (rows : List (List Int)) (run : List Int) : List Int := (ups many.toNat).map (goes rows run)
theorem mapOf_len (run : List Int) : (mapOf many rows run).length = many.toNat := by unfold mapOf; simp
theorem mapOf_get {run : List Int} {b : Int} (h0 : 0 ≤ b) (h1 : b < many) : (mapOf many rows run).getD b.toNat 0 = goes rows run b := by
  have hk : b.toNat < many.toNat := by omega
  unfold mapOf ups
  simp [hk]
  congr 1
  omega
def bRunMap : SF := (sRet (opN dTuple [(.val (fLc [2] (fRg rg1 [(.val (op2 dIx (.var 0) (.val (fC (.int 0)))))]) (gN 2) (tAll []) (fCall fDone [(.var 0), (.var 1), (.var 2)])))]))
def fRunMap : FD := runF 2 3 false bRunMap
theorem runMap_ok (S : SysOk many rows) {run : List Int} (hr : RunOk rows run) : fRunMap [sysD many rows, iT run] = .ok (false, iT (mapOf many rows run), []) := by
  have hc := fLc_map (vs := [2]) (fi := fRg rg1 [(.val (op2 dIx (.var 0) (.val (fC (.int 0)))))]) (t := gN 2) (f := fCall fDone [(.var 0), (.var 1), (.var 2)]) (ρ := [some (false, sysD many rows), some (false, iT run), none])
    (ρ1 := [some (false, sysD many rows), some (false, iT run), none]) (ds := (ups many.toNat).map .int) (fun d => match d with | .int b => .int (goes rows run b) | _ => .non)
    (by have := S.lo; have := S.hi; simp [rg1_ok (by omega : 0 ≤ many) (by omega)]) rfl (by have := S.hi; simp; omega) fun d hd => by
      obtain ⟨b, hb, rfl⟩ := List.mem_map.mp hd
      have hb := ups_mem hb
      refine ⟨_, false, [some (false, sysD many rows), some (false, iT run), some (false, .int b)], rfl, ?_, rfl⟩
      simp [wipeE, done_ok S hr hb.1 (by have := S.lo; omega : b < many)]
  unfold fRunMap bRunMap
  rw [run2]
  simp only [List.replicate]
  simp [hc, finF, outs]
  simp [iT, mapOf]
def bLawMap : SF :=
    (sSeq (sSet 2 (op1 dLstRg (.val (op2 dIx (.var 0) (.val (fC (.int 0)))))))
    (sSeq (sFor (fIt (fVar 1)) (gN 3)
    (sSet 2 (fLc [4] (fIt (fVar 2)) (gN 4) (tAll []) (op2 dIx (.val (op2 dIx (.val (op2 dIx (.var 0) (.val (fC (.int 1))))) (.var 3))) (.var 4)))))
    (sRet (opN dTuple [(.var 2)]))))
def fLawMap : FD := runF 2 5 false bLawMap
theorem lawMap_ok (S : SysOk many rows) {run : List Int} (hr : RunOk rows run) : fLawMap [sysD many rows, iT run] = .ok (false, iT (mapOf many rows run), []) := by
  have step : ∀ (bs : List Int) (d : Int) (x : Option (Bool × D)) (fr : Bool), (∀ b ∈ bs, 0 ≤ b ∧ b < many) → bs.length ≤ 16777216 → 0 ≤ d → d < rows.length →
      fLc [4] (fIt (fVar 2)) (gN 4) (tAll []) (op2 dIx (.val (op2 dIx (.val (op2 dIx (.var 0) (.val (fC (.int 1))))) (.var 3))) (.var 4)) [some (false, sysD many rows), some (false, iT run), some (fr, .lst (bs.map .int)), some (false, .int d), none] =
      .ok (true, .lst ((bs.map (act rows d)).map .int), [some (false, sysD many rows), some (false, iT run), some (false, .lst (bs.map .int)), some (false, .int d), none]) := by
    intro bs d x fr hb hl d0 d1
    have := fLc_map (vs := [4]) (fi := fIt (fVar 2)) (t := gN 4) (f := (op2 dIx (.val (op2 dIx (.val (op2 dIx (.var 0) (.val (fC (.int 1))))) (.var 3))) (.var 4))) (ρ := [some (false, sysD many rows), some (false, iT run), some (fr, .lst (bs.map .int)), some (false, .int d), none])
      (ρ1 := [some (false, sysD many rows), some (false, iT run), some (false, .lst (bs.map .int)), some (false, .int d), none]) (ds := bs.map .int) (fun e => match e with | .int b => .int (act rows d b) | _ => .non)
      (by simp) rfl (by simpa using hl) fun e he => by
        obtain ⟨b, hb', rfl⟩ := List.mem_map.mp he
        have hb2 := hb b hb'
        refine ⟨_, false, [some (false, sysD many rows), some (false, iT run), some (false, .lst (bs.map .int)), some (false, .int d), some (false, .int b)], rfl, ?_, rfl⟩
        simp [wipeE, v_ixR d0 d1, v_act S d0 d1 hb2.1 hb2.2, -List.getD_eq_getElem?_getD]
    rw [this]
    simp
  have loop : (forL (gN 3) (sSet 2 (fLc [4] (fIt (fVar 2)) (gN 4) (tAll []) (op2 dIx (.val (op2 dIx (.val (op2 dIx (.var 0) (.val (fC (.int 1))))) (.var 3))) (.var 4)))) (run.map .int)
      [some (false, sysD many rows), some (false, iT run), some (true, .lst ((ups many.toNat).map .int)), none, none]).wp (fun r => r.1 = .nx ∧ ∃ c, r.2 = [some (false, sysD many rows), some (false, iT run), some (true, .lst ((mapOf many rows run).map .int)), c, none]) := by
    refine forL_wp (fun l ρ => ∃ run' bs x, l = run'.map .int ∧ RunOk rows run' ∧ (∀ b ∈ bs, 0 ≤ b ∧ b < many) ∧ bs.length = many.toNat ∧ ρ = [some (false, sysD many rows), some (false, iT run), some (true, .lst (bs.map .int)), x, none] ∧ bs.map (goes rows run') = mapOf many rows run) (fun x l ρ hI => ?_) (fun ρ hI => ?_) _ _
      ⟨run, ups many.toNat, none, rfl, hr, fun b hb => by have := ups_mem hb; have := S.lo; omega, by simp, rfl, rfl⟩
    · obtain ⟨run', bs, y, e, k1, k2, k3, rfl, k4⟩ := hI
      cases run' with
      | nil => cases e
      | cons d run' =>
        rw [List.map_cons] at e
        cases e
        have hd := k1 d List.mem_cons_self
        refine ⟨_, rfl, ?_⟩
        have := step bs d none true k2 (by have := S.hi; omega) hd.1 hd.2
        rw [r_set]
        refine O.wp_bind (O.wp_of this ?_)
        refine ⟨run', bs.map (act rows d), some (false, .int d), rfl, fun z hz => k1 z (List.mem_cons_of_mem _ hz), fun b hb => ?_, by simpa using k3, rfl, ?_⟩
        · obtain ⟨b', hb', rfl⟩ := List.mem_map.mp hb
          have := k2 b' hb'
          exact act_rg S hd.1 hd.2 this.1 this.2
        · rw [← k4, List.map_map]
          rfl
    · obtain ⟨run', bs, y, e, k1, k2, k3, rfl, k4⟩ := hI
      cases run' with
      | cons d run' => cases e
      | nil =>
        refine ⟨rfl, y, ?_⟩
        have e2 : bs.map (goes rows []) = bs := by
          have : goes rows [] = id := by funext b; rfl
          rw [this, List.map_id]
        rw [← k4, e2]
  obtain ⟨⟨fl, ρ⟩, er, h2, cc, h3⟩ := O.wp_ex loop
  cases h2
  dsimp only at h3
  subst h3
  have hlo := S.lo; have hhi := S.hi
  unfold fLawMap bLawMap
  rw [run2]
  simp only [List.replicate]
  simp [lstRg_ok (by omega : 0 ≤ many) (by omega), iT] at er ⊢
  simp [er, finF, outs]
end
theorem pl_int (n : Nat) (i : Int) : D.pl n (.int i) = true := by cases n <;> rfl
theorem pl_iT (r : List Int) : D.pl 39 (iT r) = true := by
  show (r.map D.int).all (D.pl 38) = true
  rw [List.all_eq_true]
  intro x hx
  obtain ⟨i, _, rfl⟩ := List.mem_map.mp hx
  exact pl_int _ i
@[simp] theorem same_iT (r : List Int) : lawSame 40 [iT r, iT r] = .ok (false, .bl true, []) := same_ok 39 _ (pl_iT r)
@[simp] theorem same_int (i : Int) : lawSame 40 [.int i, .int i] = .ok (false, .bl true, []) := same_ok 39 _ (pl_int 39 i)
end U
namespace U
set_option autoImplicit false
open PySem L2

/-! ### _law_mixed -/
def bMixed : SF :=
    (sSeq (sPar [(3, (opN dList [(.var 1)])), (4, (fLst []))])
    (sSeq (sFor (fRg rg1 [(.val (opN dLen [(.var 1)]))]) (gN 2)
    (sExp (fMut mApp 4 [(fMut mPopAt 3 [(fCallIO lawTake 0 [(.val (opN dLen [(.var 3)]))])])])))
    (sRet (fMv 4))))
def lawMixed : FD := runF 2 5 true bMixed
theorem immL_mem : ∀ {ds : List D}, D.immL ds = true ↔ ∀ d ∈ ds, d.imm = true
  | [] => ⟨fun _ _ h => (List.not_mem_nil h).elim, fun _ => rfl⟩
  | d :: ds => by
    rw [immL1, Bool.and_eq_true, immL_mem (ds := ds)]
    constructor
    · rintro ⟨h1, h2⟩ x hx
      rcases List.mem_cons.mp hx with q | q
      · rw [q]; exact h1
      · exact h2 x q
    · exact fun h => ⟨h d List.mem_cons_self, fun x hx => h x (List.mem_cons_of_mem _ hx)⟩
theorem perm_erase {α : Type} : ∀ (l : List α) (i : Nat) (h : i < l.length), List.Perm (l[i] :: l.eraseIdx i) l
  | x :: l, 0, _ => List.Perm.refl _
  | x :: l, i + 1, h => by
    have := perm_erase l i (by simpa using h)
    exact (List.Perm.swap _ _ _).trans (this.cons x)
theorem popAt_ok {left : List D} {v : Int} (v0 : 0 ≤ v) (v1 : v < left.length) (hl : left.length ≤ 1000) : ∃ (hk : v.toNat < left.length), mPopAt left [.int v] = some (left[v.toNat], left.eraseIdx v.toNat) := by
  have hk : v.toNat < left.length := by omega
  refine ⟨hk, ?_⟩
  have hsi : seqIndex? v left.length = some v.toNat := by
    unfold seqIndex?
    simp [show ¬ v < 0 by omega, v0, v1]
  have hs62 : small62 v = true := by unfold small62; exact decide_eq_true (by omega)
  unfold mPopAt
  dsimp only
  rw [if_pos hs62, hsi]
  simp [hk]
abbrev bMix1 : SF := sExp (fMut mApp 4 [(fMut mPopAt 3 [(fCallIO lawTake 0 [(.val (opN dLen [(.var 3)]))])])])
theorem mix_step (q1 k : D) {left found es : List D} (h2 : left.length ≤ 1000) (h1 : 0 < left.length) (h3 : found.length ≤ 1000) (h4 : BxI es) : ∃ (es1 : List D) (x : D) (l1 : List D), bMix1 [some (true, .lst es), some (false, q1), some (false, k), some (true, .lst left), some (true, .lst found)] =
    .ok (.nx, [some (true, .lst es1), some (false, q1), some (false, k), some (true, .lst l1), some (true, .lst (found ++ [x]))]) ∧ BxI es1 ∧ List.Perm (x :: l1) left := by
  obtain ⟨v, es1, e1, v0, v1, hb1, hi1⟩ := take_ok h4.1 (many := left.length) (by omega) (by omega)
  obtain ⟨hk, hpop⟩ := popAt_ok v0 v1 h2
  refine ⟨es1, left[v.toNat], left.eraseIdx v.toNat, ?_, ⟨hb1, hi1⟩, perm_erase left v.toNat hk⟩
  have hf : found.length < 16777216 := by omega
  unfold bMix1
  simp [e1, hi1, hpop, mApp, hf]
theorem mixed_loop (q1 : D) (n : Nat) : ∀ (left found : List D) (es : List D) (a2 : Option (Bool × D)), left.length = n → n ≤ 1000 → found.length + n ≤ 1000 → BxI es → ∀ (ks : List D), ks.length = n →
    (forL (gN 2) bMix1 ks [some (true, .lst es), some (false, q1), a2, some (true, .lst left), some (true, .lst found)]).wp fun r => r.1 = .nx ∧ ∃ es' a2' l', r.2 = [some (true, .lst es'), some (false, q1), a2', some (true, .lst []), some (true, .lst (found ++ l'))] ∧ BxI es' ∧ List.Perm l' left := by
  induction n with
  | zero =>
    intro left found es a2 h1 h2 h3 h4 ks h5
    have e1 : left = [] := List.eq_nil_of_length_eq_zero h1
    have e2 : ks = [] := List.eq_nil_of_length_eq_zero h5
    subst e1; subst e2
    exact ⟨rfl, es, a2, [], by rw [List.append_nil], h4, .refl _⟩
  | succ n ih =>
    intro left found es a2 h1 h2 h3 h4 ks h5
    cases ks with
    | nil => simp at h5
    | cons k ks =>
      obtain ⟨es1, x, l1, hbody, hb1, hp⟩ := mix_step q1 k (left := left) (found := found) (by omega) (by omega) (by omega) h4
      have hlen := hp.length_eq
      rw [List.length_cons] at hlen
      have ih := ih l1 (found ++ [x]) es1 (some (false, k)) (by omega) (by omega) (by rw [List.length_append, List.length_singleton]; omega) hb1 ks (by simpa using h5)
      unfold forL
      rw [r_gN]
      refine O.wp_bind (O.wp_of hbody (O.wp_mono ih fun r h => ?_))
      obtain ⟨k1, es', a2', l', k2, k3, k4⟩ := h
      exact ⟨k1, es', a2', x :: l', by rw [k2]; simp, k3, (k4.cons _).trans hp⟩
theorem mixed_ok {b x : D} {xs : List D} (hb : Bx b) (hi : ∃ es, b = .lst es ∧ D.immL es = true) (hx : x = .lst xs ∨ x = .tup xs) (hl : xs.length ≤ 1000) : ∃ ys es, lawMixed [b, x] = .ok (true, .lst ys, [.lst es]) ∧ List.Perm ys xs ∧ BxI es := by
  obtain ⟨es, rfl, hi⟩ := hi
  obtain ⟨⟨fl, ρ⟩, er, h1, es', a2', l', h2, h3, h4⟩ := O.wp_ex (mixed_loop x xs.length xs [] es none rfl hl (by simp; omega) ⟨hb, hi⟩ ((ups xs.length).map .int) (by simp))
  cases h1
  dsimp only at h2
  subst h2
  refine ⟨l', es', ?_, h4, h3⟩
  have hr := rg1_ok (j := (xs.length : Int)) (by omega) (by omega)
  rw [Int.toNat_natCast] at hr
  have hd : dList [x] = some (true, .lst xs) := by rcases hx with rfl | rfl <;> rfl
  have hn : dLen [x] = some (false, .int xs.length) := by rcases hx with rfl | rfl <;> rfl
  clear hx hl h4 h3 hb hi
  have e0 : sPar [(3, (opN dList [(.var 1)])), (4, (fLst []))] [some (true, .lst es), some (false, x), none, none, none] = .ok (.nx, [some (true, .lst es), some (false, x), none, some (true, .lst xs), some (true, .lst [])]) := by
    simp [hd]
  have e1 : fRg rg1 [(.val (opN dLen [(.var 1)]))] [some (true, .lst es), some (false, x), none, some (true, .lst xs), some (true, .lst [])] = .ok ((ups xs.length).map .int, [some (true, .lst es), some (false, x), none, some (true, .lst xs), some (true, .lst [])]) := by
    have ea : opN dLen [(.var 1)] [some (true, .lst es), some (false, x), none, some (true, .lst xs), some (true, .lst [])] = .ok (false, .int xs.length, [some (true, .lst es), some (false, x), none, some (true, .lst xs), some (true, .lst [])]) := by simp [hn]
    rw [r_rg, r_evs1, r_pv, ea]
    simp only [O.bind_ok, r_evs0, r_gets1, r_get1, r_gets0, hr]
  have e2 : sFor (fRg rg1 [(.val (opN dLen [(.var 1)]))]) (gN 2) bMix1 [some (true, .lst es), some (false, x), none, some (true, .lst xs), some (true, .lst [])] = .ok (.nx, [some (true, .lst es'), some (false, x), a2', some (true, .lst []), some (true, .lst ([] ++ l'))]) := by
    rw [r_for, e1, O.bind_ok]
    exact er
  unfold lawMixed
  rw [run2]
  show finF true (bMixed [some (true, .lst es), some (false, x), none, none, none]) = _
  have e3 : bMixed [some (true, .lst es), some (false, x), none, none, none] = .ok (.rt true (.lst l'), [some (true, .lst es'), some (false, x), a2', some (true, .lst []), none]) := by
    show sSeq _ (sSeq (sFor _ (gN 2) bMix1) (sRet (fMv 4))) _ = _
    rw [r_seq, e0, O.bind_ok]
    show sSeq (sFor _ (gN 2) bMix1) (sRet (fMv 4)) _ = _
    rw [r_seq, e2, O.bind_ok]
    rfl
  rw [e3]
  rfl
/-! ### slices -/
theorem cut_to (ys : List D) (k : Nat) : U.cutD ys none (some (k : Int)) = ys.take k := by
  unfold U.cutD
  rw [HT.sIx_none, HT.sIx_nat, Nat.sub_zero, List.drop_zero, List.take_eq_take_iff]
  omega
theorem cut_fr (ys : List D) (k : Nat) (hk : k ≤ ys.length) : U.cutD ys (some (k : Int)) none = ys.drop k := by
  unfold U.cutD
  rw [HT.sIx_nat, HT.sIx_none, Nat.min_eq_left hk]
  exact List.take_of_length_le (by rw [List.length_drop]; omega)
theorem sl_toT (ys : List D) (k : Nat) : dSl none (some (k : Int)) (.tup ys) = some (false, .tup (ys.take k)) := by rw [← cut_to]; rfl
theorem sl_toL (ys : List D) (k : Nat) : dSl none (some (k : Int)) (.lst ys) = some (true, .lst (ys.take k)) := by rw [← cut_to]; rfl
theorem sl_frT (ys : List D) (k : Nat) (hk : k ≤ ys.length) : dSl (some (k : Int)) none (.tup ys) = some (false, .tup (ys.drop k)) := by rw [← cut_fr ys k hk]; rfl
theorem sl_frL (ys : List D) (k : Nat) (hk : k ≤ ys.length) : dSl (some (k : Int)) none (.lst ys) = some (true, .lst (ys.drop k)) := by rw [← cut_fr ys k hk]; rfl
/-! ### membership of ints -/
theorem any_int (x : Int) : ∀ ys : List Int, (ys.map D.int).any (fun z => eqD z (.int x)) = decide (x ∈ ys)
  | [] => rfl
  | y :: ys => by
    rw [List.map_cons, List.any_cons, any_int x ys]
    have : eqD (.int y) (.int x) = (y == x) := by unfold eqD; rfl
    rw [this]
    by_cases h : x = y
    · subst h; simp
    · have h' : ¬ y = x := fun z => h z.symm
      simp [h, h']
theorem good_ints (ys : List Int) (n : Nat) : (ys.map D.int).all (D.okN n) = true := by
  rw [List.all_eq_true]
  intro z hz
  obtain ⟨i, _, rfl⟩ := List.mem_map.mp hz
  cases n <;> rfl
theorem v_inL (x : Int) (ys : List Int) : dIn (.int x) (.lst (ys.map .int)) = some (decide (x ∈ ys)) := by
  unfold dIn; dsimp only; unfold dInS
  dsimp only
  have h2 : D.good (.lst (ys.map .int)) = true := good_ints ys 59
  rw [if_pos (by rw [h2]; rfl), any_int]
theorem v_inT (x : Int) (ys : List Int) : dIn (.int x) (.tup (ys.map .int)) = some (decide (x ∈ ys)) := by
  unfold dIn; dsimp only; unfold dInS
  dsimp only
  have h2 : D.good (.tup (ys.map .int)) = true := good_ints ys 59
  rw [if_pos (by rw [h2]; rfl), any_int]
theorem v_notInL (x : Int) (ys : List Int) : dNotIn (.int x) (.lst (ys.map .int)) = some (!decide (x ∈ ys)) := by unfold dNotIn; rw [v_inL]; rfl
theorem v_notInT (x : Int) (ys : List Int) : dNotIn (.int x) (.tup (ys.map .int)) = some (!decide (x ∈ ys)) := by unfold dNotIn; rw [v_inT]; rfl
/-! ### draws -/
theorem ints_of : ∀ {l : List D} {m : Int}, (∀ x ∈ l, ∃ v : Int, x = .int v ∧ 0 ≤ v ∧ v < m) → ∃ r : List Int, l = r.map .int ∧ ∀ z ∈ r, 0 ≤ z ∧ z < m
  | [], _, _ => ⟨[], rfl, fun _ h => nomatch h⟩
  | x :: l, m, h => by
    obtain ⟨v, e, h1, h2⟩ := h x List.mem_cons_self
    obtain ⟨r, e2, h3⟩ := ints_of (l := l) (m := m) fun y hy => h y (List.mem_cons_of_mem _ hy)
    refine ⟨v :: r, by rw [e, e2]; rfl, fun z hz => ?_⟩
    rcases List.mem_cons.mp hz with q | q
    · rw [q]; exact ⟨h1, h2⟩
    · exact h3 z q
/-- a slot that owns nothing -/
abbrev fz (o : Option D) : Option (Bool × D) := o.map (Prod.mk false)
theorem pl_tup (n : Nat) (ds : List D) (h : ∀ d ∈ ds, D.pl n d = true) : D.pl (n + 1) (.tup ds) = true := List.all_eq_true.mpr h
theorem pl_bl (n : Nat) (b : Bool) : D.pl n (.bl b) = true := by cases n <;> rfl
end U
namespace H
set_option autoImplicit false
open PySem L2 U
def b_law_box : SF :=
    (sSeq (sSet 2 (op2 dAdd (.val (op2 dMul (.val (fC (.int 28019))) (.var 1))) (.val (fC (.int 7703)))))
    (sSeq (sIf (tOp2 dLt (.var 1) (.val (opN dLen [(.var 0)])))
    (sSet 2 (opN dAbs [(.val (opN dInt [(.val (op2 dIx (.var 0) (.var 1)))]))]))
    (sIf (tOp2 dGt (.val (opN dLen [(.var 0)])) (.val (fC (.int 0))))
    (sSet 2 (op2 dAdd (.var 2) (.val (op2 dMul (.val (op2 dMod (.val (opN dInt [(.val (opN dAbs [(.val (opN dInt [(.val (op2 dIx (.var 0) (.val (op2 dMod (.val (opN dInt [(.var 1)])) (.val (opN dLen [(.var 0)]))))))]))]))])) (.val (fC (.int 2147483563))))) (.val (fC (.int 97813)))))))
    sNil))
    (sSeq (sSet 3 (fIf (tOp2 dGe (.var 2) (.val (op2 dPow (.val (fC (.int 10))) (.val (fC (.int 18)))))) (fVar 2) (fC (.int 0))))
    (sRet (fLst [(fVar 3), (op2 dAdd (.val (op2 dMod (.val (opN dInt [(.val (op2 dAdd (.val (op2 dMul (.val (op2 dMod (.val (opN dInt [(.var 2)])) (.val (fC (.int 2147483563))))) (.val (fC (.int 54250003))))) (.val (op2 dMul (.val (fC (.int 7703))) (.var 1)))))])) (.val (fC (.int 2147483563))))) (.val (fC (.int 1))))])))))
def d_law_box : FD := runF 2 4 false b_law_box
def b_law_take : SF :=
    (sSeq (sIf (tOp2 dGt (.val (op2 dIx (.var 0) (.val (fC (.int 0))))) (.val (fC (.int 0))))
    (sSeq (sSet 3 (op2 dMod (.val (opN dInt [(.val (op2 dIx (.var 0) (.val (fC (.int 0)))))])) (.var 1)))
    (sSeq (sIx 0 (fC (.int 0)) (op2 dFdiv (.val (op2 dIx (.var 0) (.val (fC (.int 0))))) (.var 1)))
    (sRet (fMv 3))))
    sNil)
    (sSeq (sSet 2 (op2 dMod (.val (opN dInt [(.val (op2 dAdd (.val (op2 dMul (.val (op2 dIx (.var 0) (.val (fC (.int 1))))) (.val (fC (.int 39373))))) (.val (fC (.int 211)))))])) (.val (fC (.int 2147483647)))))
    (sSeq (sIx 0 (fC (.int 1)) (op2 dAdd (.val (op2 dMod (.val (opN dInt [(.val (op2 dAdd (.val (op2 dMul (.var 2) (.val (fC (.int 40692))))) (.val (fC (.int 97)))))])) (.val (fC (.int 2147483563))))) (.val (fC (.int 1)))))
    (sRet (op2 dMod (.val (opN dInt [(.val (op2 dFdiv (.val (op2 dAdd (.val (op2 dMul (.var 2) (.val (fC (.int 2147483629))))) (.val (op2 dIx (.var 0) (.val (fC (.int 1))))))) (.val (fC (.int 8263)))))])) (.var 1))))))
def d_law_take : FD := runF 2 4 true b_law_take
def b_law_pick : SF :=
    (sRet (op2 dIx (.var 1) (.val (fCallIO d_law_take 0 [(.val (opN dLen [(.var 1)]))]))))
def d_law_pick : FD := runF 2 2 true b_law_pick
def b_law_same (dn : FD) : SF :=
    (sSeq (sIf (tOf (.val (op1 (dIsi "tuple") (.var 1))))
    (sSeq (sIf (tOr' (tNo (tOf (.val (op1 (dIsi "tuple") (.var 0))))) (tOp2 dNe (.val (opN dLen [(.var 0)])) (.val (opN dLen [(.var 1)]))))
    (sRet (fC (.bl false)))
    sNil)
    (sSeq (sFor (fZip (fVar 0) (fVar 1)) (gT [(gN 2), (gN 3)])
    (sIf (tNo (tOf (.val (fCall dn [(.var 2), (.var 3)]))))
    (sRet (fC (.bl false)))
    sNil))
    (sRet (fC (.bl true)))))
    sNil)
    (sSeq (sIf (tOp2 dIsN (.var 1) (.val (fC .non)))
    (sRet (op2 (blO dIsN) (.var 0) (.val (fC .non))))
    sNil)
    (sSeq (sIf (tOr' (tOp2 dIsB (.var 1) (.val (fC (.bl true)))) (tOp2 dIsB (.var 1) (.val (fC (.bl false)))))
    (sRet (fAnd (.val (op1 (dIsi "bool") (.var 0))) (op2 (blO dEq) (.var 0) (.var 1))))
    sNil)
    (sSeq (sIf (tOf (.val (op1 (dIsi "int") (.var 1))))
    (sRet (fAnd (.val (op1 (dIsi "int") (.var 0))) (fAnd (.val (fNot (.val (op1 (dIsi "bool") (.var 0))))) (op2 (blO dEq) (.var 0) (.var 1)))))
    sNil)
    (sRet (fAnd (.val (op1 (dIsi "str") (.var 0))) (fAnd (.val (op1 (dIsi "str") (.var 1))) (op2 (blO dEq) (.var 0) (.var 1)))))))))
def d_law_same : Nat → FD
  | 0 => fun _ => .bad
  | n + 1 => runF 2 4 false (b_law_same (d_law_same n))
def b_law_mixed : SF :=
    (sSeq (sPar [(3, (opN dList [(.var 1)])), (4, (fLst []))])
    (sSeq (sFor (fRg rg1 [(.val (opN dLen [(.var 1)]))]) (gN 2)
    (sExp (fMut mApp 4 [(fMut mPopAt 3 [(fCallIO d_law_take 0 [(.val (opN dLen [(.var 3)]))])])])))
    (sRet (fMv 4))))
def d_law_mixed : FD := runF 2 5 true b_law_mixed
def b_law_map : SF :=
    (sSeq (sSet 2 (op1 dLstRg (.val (op2 dIx (.var 0) (.val (fC (.int 0)))))))
    (sSeq (sFor (fIt (fVar 1)) (gN 3)
    (sSet 2 (fLc [4] (fIt (fVar 2)) (gN 4) (tAll []) (op2 dIx (.val (op2 dIx (.val (op2 dIx (.var 0) (.val (fC (.int 1))))) (.var 3))) (.var 4)))))
    (sRet (opN dTuple [(.var 2)]))))
def d_law_map : FD := runF 2 5 false b_law_map
def b_law_rows : SF :=
    (sSeq (sPar [(3, (fLst [(fTup [])])), (4, (fLst [(fTup [])]))])
    (sSeq (sFor (fRg rg1 [(.var 1)]) (gN 2)
    (sSeq (sSet 5 (fLst []))
    (sSeq (sFor (fIt (fVar 4)) (gN 6)
    (sSet 5 (op2 dAdd (.var 5) (.val (fLc [7] (fRg rg1 [(.var 0)]) (gN 7) (tOp2 dNotIn (.var 7) (.var 6)) (op2 dAdd (.var 6) (.val (fTup [(fVar 7)]))))))))
    (sPar [(3, (op2 dAdd (.var 3) (.var 5))), (4, (fVar 5))]))))
    (sRet (fMv 3))))
def d_law_rows : FD := runF 2 8 false b_law_rows
def b_law_is_plain : SF :=
    (sSeq (sSet 1 (opN dLen [(.val (op2 dIx (.var 0) (.val (fC (.int 1)))))]))
    (sSeq (sFor (fIt (fCall d_law_rows [(.var 1), (.val (op2 dSub (.var 1) (.val (fC (.int 1)))))])) (gN 2)
    (sFor (fRg rg1 [(.var 1)]) (gN 3)
    (sIf (tAn (tOp2 dNotIn (.var 3) (.var 2)) (tOp2 dNe (.val (fCall d_law_map [(.var 0), (.val (op2 dAdd (.val (op2 dAdd (.val (fTup [(fVar 3)])) (.var 2))) (.val (fTup [(fVar 3)]))))])) (.val (fCall d_law_map [(.var 0), (.val (op2 dAdd (.var 2) (.val (fTup [(fVar 3)]))))]))))
    (sRet (fC (.bl false)))
    sNil)))
    (sRet (fC (.bl true)))))
def d_law_is_plain : FD := runF 1 4 false b_law_is_plain
def b_law_set : SF :=
    (sRet (opN dTuple [(.val (fLc [2, 3] (fZip (fVar 0) (fVar 1)) (gT [(gN 2), (gN 3)]) (tAll []) (fIf (tOp2 dIsN (.var 2) (.val (fC .non))) (fVar 3) (fVar 2))))]))
def d_law_set : FD := runF 2 4 false b_law_set
def b_law_settings_1 : SF :=
    (sExp (fMut mApp 3 [(opN dTuple [(.val (fLc [15] (fIt (fVar 2)) (gN 15) (tAll []) (fCallIO d_law_pick 0 [(.val (fLst [(fC .non), (fCallIO d_law_take 0 [(.var 15)]), (fCallIO d_law_take 0 [(.var 15)])]))])))])]))
def b_law_settings_2 : SF :=
    (sSeq (sSet 14 (fCall d_law_set [(.var 10), (.val (op2 dIx (.var 11) (.var 12)))]))
    (sIf (tOp2 dNotIn (.var 14) (.var 11))
    (sExp (fMut mApp 11 [(fVar 14)]))
    sNil))
def b_law_settings_3 : SF :=
    (sSeq (sFor (fIt (fVar 3)) (gN 10)
    b_law_settings_2)
    (sSet 12 (op2 dAdd (.var 12) (.val (fC (.int 1))))))
def b_law_settings_4 : SF :=
    (sSeq (sIf (tOp2 dEq (.var 12) (.val (opN dLen [(.var 11)])))
    sBk
    sNil)
    b_law_settings_3)
def b_law_settings_5 : SF :=
    (sExp (fMut mApp 9 [(opN dTuple [(.val (fLc [7] (fIt (fVar 11)) (gN 7) (tAll []) (fIndex (.var 11) (.val (fCall d_law_set [(.var 10), (.var 7)])))))])]))
def b_law_settings_6 : SF :=
    (sSeq (sFor (fIt (fVar 3)) (gN 10)
    b_law_settings_5)
    (sRet (fTup [(opN dLen [(.var 11)]), (opN dTuple [(.var 9)])])))
def b_law_settings_7 : SF :=
    (sSeq (sFor (fRg rg1 [(.val (fC (.int 60)))]) (gN 8)
    b_law_settings_4)
    (sSeq (sSet 9 (fLst []))
    b_law_settings_6))
def b_law_settings_8 : SF :=
    (sSeq (sFor (fIt (fVar 5)) (gN 7)
    (sIf (tOp2 dNotIn (.var 7) (.var 6))
    (sExp (fMut mApp 6 [(fVar 7)]))
    sNil))
    (sSeq (sPar [(11, (fMv 6)), (12, (fC (.int 0)))])
    b_law_settings_7))
def b_law_settings_9 : SF :=
    (sSeq (sSet 5 (fLc [8] (fRg rg1 [(.val (op2 dAdd (.val (fC (.int 1))) (.val (fCallIO d_law_take 0 [(.val (fC (.int 9)))]))))]) (gN 8) (tAll []) (opN dTuple [(.val (fLc [15] (fIt (fVar 2)) (gN 15) (tAll []) (fCallIO d_law_take 0 [(.var 15)])))])))
    (sSeq (sSet 6 (fLst []))
    b_law_settings_8))
def b_law_settings_10 : SF :=
    (sSeq (sSet 3 (fLst []))
    (sSeq (sFor (fRg rg1 [(.var 1)]) (gN 4)
    b_law_settings_1)
    b_law_settings_9))
def b_law_settings_11 : SF :=
    (sSeq (sSet 2 (fLc [13] (fRg rg1 [(.val (fCallIO d_law_pick 0 [(.val (fLst [(fC (.int 1)), (fC (.int 2)), (fC (.int 3)), (fC (.int 3))]))]))]) (gN 13) (tAll []) (op2 dAdd (.val (fC (.int 2))) (.val (fCallIO d_law_take 0 [(.val (fC (.int 2)))])))))
    b_law_settings_10)
def b_law_settings : SF :=
    b_law_settings_11
def d_law_settings : FD := runF 2 16 true b_law_settings
def b_law_orders : SF :=
    (sRet (fLc [1] (fIt (fCall d_law_rows [(.var 0), (.var 0)])) (gN 1) (tOp2 dEq (.val (opN dLen [(.var 1)])) (.var 0)) (fVar 1)))
def d_law_orders : FD := runF 1 2 false b_law_orders
def b_law_front : SF :=
    (sRet (op2 dAdd (.val (opN dTuple [(.var 1)])) (.val (opN dTuple [(.val (fLc [2] (fIt (fVar 0)) (gN 2) (tOp2 dNotIn (.var 2) (.var 1)) (fVar 2)))]))))
def d_law_front : FD := runF 2 3 false b_law_front
def b_law_fronts : SF :=
    (sSeq (sPar [(4, (fCall d_law_orders [(.var 1)])), (5, (fLst []))])
    (sSeq (sFor (fRg rg1 [(.var 2)]) (gN 3)
    (sSeq (sSet 6 (fSl (.val (fCallIO d_law_mixed 0 [(.val (op1 dLstRg (.var 1)))])) none (some (fCallIO d_law_pick 0 [(.val (fLst [(fC (.int 1)), (fC (.int 1)), (fC (.int 1)), (fC (.int 2))]))]))))
    (sExp (fMut mApp 5 [(opN dTuple [(.val (fLc [7] (fIt (fVar 4)) (gN 7) (tAll []) (fIndex (.var 4) (.val (fCall d_law_front [(.var 7), (.var 6)])))))])]))))
    (sRet (fTup [(opN dLen [(.var 4)]), (opN dTuple [(.var 5)])]))))
def d_law_fronts : FD := runF 3 8 true b_law_fronts
def b_law_few : SF :=
    (sSeq (sFor (fRg rg1 [(.val (fC (.int 8)))]) (gN 2)
    (sSeq (sSet 3 (op2 dAdd (.val (fC (.int 2))) (.val (fCallIO d_law_take 0 [(.val (fC (.int 4)))]))))
    (sSeq (sSet 4 (fLst []))
    (sSeq (sFor (fRg rg1 [(.var 1)]) (gN 5)
    (sSeq (sSet 6 (fSl (.val (fCallIO d_law_mixed 0 [(.val (op1 dLstRg (.var 3)))])) none (some (op2 dAdd (.val (fC (.int 1))) (.val (fCallIO d_law_take 0 [(.var 3)]))))))
    (sExp (fMut mApp 4 [(opN dTuple [(.val (fLc [7] (fRg rg1 [(.var 3)]) (gN 7) (tAll []) (fIf (tOp2 dIn (.var 7) (.var 6)) (fVar 7) (fCallIO d_law_pick 0 [(.var 6)]))))])]))))
    (sIf (tOf (.val (fCall d_law_is_plain [(.val (fTup [(fVar 3), (opN dTuple [(.var 4)])]))])))
    (sRet (fTup [(fVar 3), (opN dTuple [(.var 4)])]))
    sNil)))))
    (sRet (fCallIO d_law_settings 0 [(.var 1)])))
def d_law_few : FD := runF 2 8 true b_law_few
def b_law_glued_1 : SF :=
    (sSet 2 (op2 dAdd (.var 2) (.val (fLc [16] (fIt (fSl (.var 14) (some (fC (.int 1))) none)) (gN 16) (tAll []) (fTup [(op2 dIx (.var 14) (.val (fC (.int 0)))), (fVar 16)])))))
def b_law_glued_2 : SF :=
    (sSeq (sSet 14 (fLc [15] (fRg rg1 [(.var 7)]) (gN 15) (tOp2 dEq (.val (op2 dIx (.var 8) (.var 15))) (.var 12)) (op2 dIx (.var 6) (.var 15))))
    b_law_glued_1)
def b_law_glued_3 : SF :=
    (sSeq (sSet 8 (fLc [9] (fIt (fVar 8)) (gN 9) (tAll []) (fIf (tOp2 dEq (.var 9) (.var 13)) (fVar 12) (fVar 9))))
    (sFor (fIt (op2 dIx (.var 1) (.val (fC (.int 1))))) (gN 6)
    b_law_glued_2))
def b_law_glued_4 : SF :=
    (sSeq (sPar [(12, (op2 dIx (.var 8) (.val (op2 dIx (.val (op2 dIx (.var 2) (.var 3))) (.val (fC (.int 0))))))), (13, (op2 dIx (.var 8) (.val (op2 dIx (.val (op2 dIx (.var 2) (.var 3))) (.val (fC (.int 1)))))))])
    (sIf (tOp2 dNe (.var 12) (.var 13))
    b_law_glued_3
    sNil))
def b_law_glued_5 : SF :=
    (sSeq (sIf (tOp2 dGe (.var 3) (.val (opN dLen [(.var 2)])))
    sBk
    sNil)
    b_law_glued_4)
def b_law_glued_6 : SF :=
    (sExp (fMut mApp 11 [(fIndex (.var 4) (.val (op2 dIx (.var 8) (.val (op2 dIx (.var 6) (.val (fIndex (.var 8) (.var 9))))))))]))
def b_law_glued_7 : SF :=
    (sSeq (sFor (fIt (fVar 4)) (gN 9)
    b_law_glued_6)
    (sExp (fMut mApp 5 [(opN dTuple [(.var 11)])])))
def b_law_glued_8 : SF :=
    (sSeq (sFor (fIt (op2 dIx (.var 1) (.val (fC (.int 1))))) (gN 6)
    (sSeq (sSet 11 (fLst []))
    b_law_glued_7))
    (sRet (fTup [(opN dLen [(.var 4)]), (opN dTuple [(.var 5)])])))
def b_law_glued_9 : SF :=
    (sSeq (sIf (tOp2 dGt (.val (opN dLen [(.var 2)])) (.val (op2 dAdd (.val (op2 dMul (.var 7) (.val (fC (.int 9))))) (.val (fC (.int 8))))))
    (sRet (fMv 1))
    sNil)
    (sSeq (sSet 5 (fLst []))
    b_law_glued_8))
def b_law_glued_10 : SF :=
    (sSeq (sFor (fRg rg1 [(.val (op2 dAdd (.val (op2 dMul (.var 7) (.val (fC (.int 9))))) (.val (fC (.int 9)))))]) (gN 3)
    b_law_glued_5)
    (sSeq (sSet 4 (opN dSortSet [(.var 8)]))
    b_law_glued_9))
def b_law_glued_11 : SF :=
    (sSeq (sPar [(9, (fCallIO d_law_take 0 [(.var 7)])), (10, (fCallIO d_law_take 0 [(.var 7)]))])
    (sSeq (sSet 2 (fLst [(fTup [(fVar 9), (fVar 10)])]))
    b_law_glued_10))
def b_law_glued_12 : SF :=
    (sSeq (sPar [(7, (op2 dIx (.var 1) (.val (fC (.int 0))))), (8, (op1 dLstRg (.val (op2 dIx (.var 1) (.val (fC (.int 0)))))))])
    b_law_glued_11)
def b_law_glued : SF :=
    b_law_glued_12
def d_law_glued : FD := runF 2 17 true b_law_glued
def b_law_system : SF :=
    (sSeq (sSet 2 (op2 dAdd (.val (fC (.int 1))) (.val (opN dMax2 [(.val (fCallIO d_law_take 0 [(.val (fC (.int 4)))])), (.val (fCallIO d_law_take 0 [(.val (fC (.int 4)))]))]))))
    (sSeq (sSet 3 (fCallIO d_law_take 0 [(.val (fC (.int 5)))]))
    (sSeq (sIf (tOp2 dLt (.var 3) (.val (fC (.int 2))))
    (sSet 4 (fCallIO d_law_settings 0 [(.var 2)]))
    (sIf (tOp2 dEq (.var 3) (.val (fC (.int 2))))
    (sSet 4 (fCallIO d_law_fronts 0 [(.val (op2 dSub (.val (fIf (tOp2 dLt (.var 1) (.val (fC (.int 24)))) (fC (.int 3)) (fC (.int 4)))) (.val (fCallIO d_law_take 0 [(.val (fC (.int 2)))])))), (.var 2)]))
    (sSet 4 (fCallIO d_law_few 0 [(.val (opN dMin2 [(.val (fC (.int 3))), (.var 2)]))]))))
    (sSeq (sIf (tOr' (tOp2 dEq (.var 3) (.val (fC (.int 4)))) (tOp2 dEq (.val (fCallIO d_law_take 0 [(.val (fC (.int 4)))])) (.val (fC (.int 0)))))
    (sSeq (sSet 5 (fCallIO d_law_glued 0 [(.var 4)]))
    (sSet 4 (fIf (tOf (.val (fCall d_law_is_plain [(.var 5)]))) (fVar 5) (fVar 4))))
    sNil)
    (sSeq (sIf (tOp2 dGt (.val (op2 dIx (.var 4) (.val (fC (.int 0))))) (.var 1))
    (sSet 4 (fCallIO d_law_few 0 [(.val (opN dMin2 [(.val (fC (.int 3))), (.var 2)]))]))
    sNil)
    (sRet (fIf (tOp2 dLe (.val (op2 dIx (.var 4) (.val (fC (.int 0))))) (.var 1)) (fVar 4) (fTup [(fC (.int 2)), (fTup [(fTup [(fC (.int 0)), (fC (.int 0))]), (fTup [(fC (.int 1)), (fC (.int 1))])])]))))))))
def d_law_system : FD := runF 2 6 true b_law_system
end H
namespace H
set_option autoImplicit false
open PySem L2 U
theorem q_box : d_law_box = lawBox := rfl
theorem q_take : d_law_take = lawTake := rfl
theorem q_pick : d_law_pick = lawPick := rfl
theorem q_mixed : d_law_mixed = lawMixed := rfl
theorem q_map : d_law_map = fLawMap := rfl
theorem q_same (n : Nat) : d_law_same n = lawSame n := by
  induction n with
  | zero => rfl
  | succ n ih => unfold d_law_same lawSame; rw [ih]; rfl
/-! ### _law_rows -/
/-- the rows of t unlike deeds of m -/
def lev (m : Nat) : Nat → List (List Int)
  | 0 => [[]]
  | t + 1 => (lev m t).flatMap fun row => ((ups m).filter fun one => !decide (one ∈ row)).map fun one => row ++ [one]
def rowsF (m : Nat) : Nat → List (List Int)
  | 0 => [[]]
  | t + 1 => rowsF m t ++ lev m (t + 1)
theorem lev_len (m : Nat) : ∀ t, (lev m t).length ≤ m ^ t
  | 0 => Nat.le_refl _
  | t + 1 => by
    have ih := lev_len m t
    have : ∀ l : List (List Int), (l.flatMap fun row => ((ups m).filter fun one => !decide (one ∈ row)).map fun one => row ++ [one]).length ≤ l.length * m := by
      intro l
      induction l with
      | nil => simp
      | cons r l ih =>
        rw [List.flatMap_cons, List.length_append, List.length_map, List.length_cons, Nat.succ_mul]
        have h1 := List.length_filter_le (fun one => !decide (one ∈ r)) (ups m)
        rw [ups_len] at h1
        omega
    calc (lev m (t + 1)).length ≤ (lev m t).length * m := this _
      _ ≤ m ^ t * m := Nat.mul_le_mul_right _ ih
      _ = m ^ (t + 1) := (Nat.pow_succ ..).symm
theorem lev_row (m : Nat) : ∀ t, ∀ r ∈ lev m t, r.length = t ∧ r.Nodup ∧ ∀ z ∈ r, 0 ≤ z ∧ z < m
  | 0, r, h => by
    rw [List.mem_singleton.mp h]
    exact ⟨rfl, List.nodup_nil, fun z hz => (List.not_mem_nil hz).elim⟩
  | t + 1, r, h => by
    obtain ⟨r', h1, h2⟩ := List.mem_flatMap.mp h
    obtain ⟨one, h3, rfl⟩ := List.mem_map.mp h2
    obtain ⟨h4, h5⟩ := List.mem_filter.mp h3
    obtain ⟨k1, k2, k3⟩ := lev_row m t r' h1
    have hno : one ∉ r' := by simpa using h5
    refine ⟨by simp [k1], ?_, fun z hz => ?_⟩
    · rw [List.nodup_append]
      refine ⟨k2, List.nodup_cons.mpr ⟨List.not_mem_nil, List.nodup_nil⟩, fun a ha b hb e => ?_⟩
      rw [List.mem_singleton.mp hb] at e
      exact hno (by rw [← e]; exact ha)
    · rcases List.mem_append.mp hz with q | q
      · exact k3 z q
      · rw [List.mem_singleton.mp q]; exact ups_mem h4
theorem rowsF_mem (m : Nat) : ∀ t, ∀ r ∈ rowsF m t, r.length ≤ t ∧ r.Nodup ∧ ∀ z ∈ r, 0 ≤ z ∧ z < m
  | 0, r, h => by
    rw [List.mem_singleton.mp h]
    exact ⟨Nat.le_refl _, List.nodup_nil, fun z hz => (List.not_mem_nil hz).elim⟩
  | t + 1, r, h => by
    rcases List.mem_append.mp h with q | q
    · obtain ⟨k1, k2⟩ := rowsF_mem m t r q
      exact ⟨by omega, k2⟩
    · obtain ⟨k1, k2⟩ := lev_row m (t + 1) r q
      exact ⟨by omega, k2⟩
theorem pow_small {m t : Nat} (h : m ≤ 6) (h2 : t ≤ 6) : m ^ t ≤ 46656 := by
  have h1 : m ^ t ≤ 6 ^ t := Nat.pow_le_pow_left h t
  have h3 : 6 ^ t ≤ 6 ^ 6 := Nat.pow_le_pow_right (by decide) h2
  have : (6 : Nat) ^ 6 = 46656 := by decide
  omega
theorem rowsF_len {m : Nat} (hm : m ≤ 6) : ∀ t, t ≤ 6 → (rowsF m t).length ≤ (t + 1) * 46656
  | 0, _ => by show 1 ≤ _; omega
  | t + 1, h => by
    show (rowsF m t ++ lev m (t + 1)).length ≤ _
    rw [List.length_append]
    have h1 := rowsF_len hm t (by omega)
    have h2 := Nat.le_trans (lev_len m (t + 1)) (pow_small hm h)
    omega
/-- one turn of the inner loop -/
abbrev grow (m : Nat) (row : List Int) : List (List Int) := ((ups m).filter fun one => !decide (one ∈ row)).map fun one => row ++ [one]
theorem v_addT (a b : List Int) (h : a.length + b.length ≤ 16777216) : dAdd (iT a) (iT b) = some (false, iT (a ++ b)) := by
  unfold iT dAdd
  dsimp only
  rw [if_pos (by rw [List.length_map, List.length_map]; exact h), List.map_append]
theorem v_addL (a b : List D) (h : a.length + b.length ≤ 16777216) : dAdd (.lst a) (.lst b) = some (true, .lst (a ++ b)) := by
  unfold dAdd
  dsimp only
  rw [if_pos h]
theorem imm_rowsL (l : List (List Int)) : D.immL (l.map iT) = true := imm_rows l
theorem grow_ok' (m : Nat) (hm : m ≤ 6) (row : List Int) (hr : row.length ≤ 100) (s1 s2 s3 s4 : Option (Bool × D)) (lo : List D) (s7 : Option D) :
    fLc [7] (fRg rg1 [(.var 0)]) (gN 7) (tOp2 dNotIn (.var 7) (.var 6)) (op2 dAdd (.var 6) (.val (fTup [(fVar 7)]))) [some (false, .int m), s1, s2, s3, s4, some (true, .lst lo), some (false, iT row), fz s7] =
      .ok (true, .lst ((grow m row).map iT), [some (false, .int m), s1, s2, s3, s4, some (true, .lst lo), some (false, iT row), fz s7]) := by
  have hg := rg1_ok (j := (m : Int)) (by omega) (by omega)
  rw [Int.toNat_natCast] at hg
  have hfi : fRg rg1 [(.var 0)] [some (false, .int m), s1, s2, s3, s4, some (true, .lst lo), some (false, iT row), fz s7] = .ok ((ups m).map .int, [some (false, .int m), s1, s2, s3, s4, some (true, .lst lo), some (false, iT row), fz s7]) := by
    generalize (m : Int) = mm at hg
    simp [hg]
  have hc := fLc_filter (vs := [7]) (t := gN 7) (cs := tOp2 dNotIn (.var 7) (.var 6)) (f := op2 dAdd (.var 6) (.val (fTup [(fVar 7)]))) (fun d => match d with | .int z => !decide (z ∈ row) | _ => false) (fun d => match d with | .int z => iT (row ++ [z]) | _ => .non) hfi (by cases s7 <;> rfl) (by rw [List.length_map, ups_len]; omega) fun d hd => by
    obtain ⟨z, hz, rfl⟩ := List.mem_map.mp hd
    refine ⟨[some (false, .int m), s1, s2, s3, s4, some (true, .lst lo), some (false, iT row), some (false, .int z)], [some (false, .int m), s1, s2, s3, s4, some (true, .lst lo), some (false, iT row), some (false, .int z)], rfl, ?_, fun _ => rfl, fun _ => ⟨false, [some (false, .int m), s1, s2, s3, s4, some (true, .lst lo), some (false, iT row), some (false, .int z)], ?_, rfl⟩⟩
    · have : dNotIn (.int z) (iT row) = some (!decide (z ∈ row)) := v_notInT z row
      simp [this]
    · have : dAdd (iT row) (.tup [.int z]) = some (false, iT (row ++ [z])) := v_addT row [z] (by rw [List.length_singleton]; omega)
      simp [this]
  rw [hc]
  congr 3
  rw [List.filter_map, List.map_map, List.map_map]
  rfl
theorem rows_inner (m : Nat) (hm : m ≤ 6) (s1 s2 s3 s4 : Option (Bool × D)) : ∀ (l acc : List (List Int)) (s6 s7 : Option D), (∀ r ∈ l, r.length ≤ 100) → acc.length + l.length * m ≤ 16777216 →
    (forL (gN 6) (sSet 5 (op2 dAdd (.var 5) (.val (fLc [7] (fRg rg1 [(.var 0)]) (gN 7) (tOp2 dNotIn (.var 7) (.var 6)) (op2 dAdd (.var 6) (.val (fTup [(fVar 7)]))))))) (l.map iT) [some (false, .int m), s1, s2, s3, s4, some (true, .lst (acc.map iT)), fz s6, fz s7]).wp fun r => r.1 = .nx ∧ ∃ s6, r.2 = [some (false, .int m), s1, s2, s3, s4, some (true, .lst ((acc ++ l.flatMap (grow m)).map iT)), fz s6, fz s7]
  | [], acc, s6, s7, _, _ => ⟨rfl, s6, by simp⟩
  | r :: l, acc, s6, s7, hl, hz => by
    rw [List.map_cons]
    have hgl : (grow m r).length ≤ m := by
      have := List.length_filter_le (fun one => !decide (one ∈ r)) (ups m)
      rw [ups_len] at this
      rw [List.length_map]
      exact this
    rw [List.length_cons, Nat.succ_mul] at hz
    have hg := grow_ok' m hm r (hl r List.mem_cons_self) s1 s2 s3 s4 (acc.map iT) s7
    have hadd : dAdd (.lst (acc.map iT)) (.lst ((grow m r).map iT)) = some (true, .lst ((acc ++ grow m r).map iT)) := by
      rw [v_addL _ _ (by rw [List.length_map, List.length_map]; omega), List.map_append]
    have hb : sSet 5 (op2 dAdd (.var 5) (.val (fLc [7] (fRg rg1 [(.var 0)]) (gN 7) (tOp2 dNotIn (.var 7) (.var 6)) (op2 dAdd (.var 6) (.val (fTup [(fVar 7)])))))) [some (false, .int m), s1, s2, s3, s4, some (true, .lst (acc.map iT)), some (false, iT r), fz s7] = .ok (.nx, [some (false, .int m), s1, s2, s3, s4, some (true, .lst ((acc ++ grow m r).map iT)), some (false, iT r), fz s7]) := by
      rw [r_set, r_op2, r_pr]
      simp only [List.getElem?_cons_succ, List.getElem?_cons_zero, O.bind_ok, r_pv, hg, r_get0, r_slot, r_get1, r_get2, hadd]
      rfl
    have ih := rows_inner m hm s1 s2 s3 s4 l (acc ++ grow m r) (some (iT r)) s7 (fun x hx => hl x (List.mem_cons_of_mem _ hx)) (by rw [List.length_append]; omega)
    unfold forL
    rw [r_gN]
    refine O.wp_bind (O.wp_of hb (O.wp_mono ih fun r' h => ?_))
    obtain ⟨k1, s6', k2⟩ := h
    exact ⟨k1, s6', by rw [k2, List.flatMap_cons, List.append_assoc]⟩
abbrev bRow1 : SF := (sSeq (sSet 5 (fLst []))
    (sSeq (sFor (fIt (fVar 4)) (gN 6)
    (sSet 5 (op2 dAdd (.var 5) (.val (fLc [7] (fRg rg1 [(.var 0)]) (gN 7) (tOp2 dNotIn (.var 7) (.var 6)) (op2 dAdd (.var 6) (.val (fTup [(fVar 7)]))))))))
    (sPar [(3, (op2 dAdd (.var 3) (.var 5))), (4, (fVar 5))])))
theorem rows_turn (m t : Nat) (hm : m ≤ 6) (ht : t < 6) (s1 s2 : Option (Bool × D)) (fr : Bool) (s5 : Option (Bool × D)) (s6 s7 : Option D) :
    (bRow1 [some (false, .int m), s1, s2, some (true, .lst ((rowsF m t).map iT)), some (fr, .lst ((lev m t).map iT)), s5, fz s6, fz s7]).wp fun r => r.1 = .nx ∧ ∃ fr s5 s6, r.2 = [some (false, .int m), s1, s2, some (true, .lst ((rowsF m (t + 1)).map iT)), some (fr, .lst ((lev m (t + 1)).map iT)), s5, fz s6, fz s7] := by
  refine seq_set (fr := true) (d := .lst []) (ρ' := [some (false, .int m), s1, s2, some (true, .lst ((rowsF m t).map iT)), some (fr, .lst ((lev m t).map iT)), s5, fz s6, fz s7]) (by simp) ?_
  have hL := Nat.le_trans (lev_len m t) (pow_small hm (by omega))
  have hL1 := Nat.le_trans (lev_len m (t + 1)) (pow_small hm (by omega))
  have hR := rowsF_len hm t (by omega)
  have hLm : (lev m t).length * m ≤ 46656 * 6 := Nat.mul_le_mul hL hm
  obtain ⟨⟨fl, ρ⟩, er, k1, s6', k2⟩ := O.wp_ex (rows_inner m hm s1 s2 (some (true, .lst ((rowsF m t).map iT))) (some (false, .lst ((lev m t).map iT))) (lev m t) [] s6 s7 (fun r hr => by rw [(lev_row m t r hr).1]; omega) (by rw [List.length_nil]; omega))
  cases k1
  dsimp only at k2
  subst k2
  rw [List.nil_append] at er
  have he : (lev m t).flatMap (grow m) = lev m (t + 1) := rfl
  rw [he] at er
  refine seq_nx (ρ' := [some (false, .int m), s1, s2, some (true, .lst ((rowsF m t).map iT)), some (false, .lst ((lev m t).map iT)), some (true, .lst ((lev m (t + 1)).map iT)), fz s6', fz s7]) ?_ ?_
  · have hit : fIt (fVar 4) [some (false, .int m), s1, s2, some (true, .lst ((rowsF m t).map iT)), some (fr, .lst ((lev m t).map iT)), some (true, .lst []), fz s6, fz s7] = .ok ((lev m t).map iT, [some (false, .int m), s1, s2, some (true, .lst ((rowsF m t).map iT)), some (false, .lst ((lev m t).map iT)), some (true, .lst []), fz s6, fz s7]) := by simp
    show sFor _ _ _ [some (false, .int m), s1, s2, some (true, .lst ((rowsF m t).map iT)), some (fr, .lst ((lev m t).map iT)), some (true, .lst []), fz s6, fz s7] = _
    rw [r_for, hit, O.bind_ok]
    exact er
  · have hadd : dAdd (.lst ((rowsF m t).map iT)) (.lst ((lev m (t + 1)).map iT)) = some (true, .lst ((rowsF m (t + 1)).map iT)) := by
      rw [v_addL _ _ (by rw [List.length_map, List.length_map]; omega), ← List.map_append]
      rfl
    refine O.wp_of (a := (.nx, [some (false, .int m), s1, s2, some (true, .lst ((rowsF m (t + 1)).map iT)), some (false, .lst ((lev m (t + 1)).map iT)), some (false, .lst ((lev m (t + 1)).map iT)), fz s6', fz s7])) ?_ ⟨rfl, false, _, s6', rfl⟩
    rw [r_par, r_par1, r_op2, r_pr]
    simp only [List.getElem?_cons_succ, List.getElem?_cons_zero, O.bind_ok, r_pr, r_get0, r_slot, r_get2, hadd, r_par1, r_var, r_par0]
    rfl
theorem rows_loop (m : Nat) (hm : m ≤ 6) (s1 : Option (Bool × D)) : ∀ (n t : Nat), t + n ≤ 6 → ∀ (ks : List D), ks.length = n → ∀ (s2 : Option (Bool × D)) (fr : Bool) (s5 : Option (Bool × D)) (s6 s7 : Option D),
    (forL (gN 2) bRow1 ks [some (false, .int m), s1, s2, some (true, .lst ((rowsF m t).map iT)), some (fr, .lst ((lev m t).map iT)), s5, fz s6, fz s7]).wp fun r => r.1 = .nx ∧ ∃ s2 s4 s5 s6 s7, r.2 = [some (false, .int m), s1, s2, some (true, .lst ((rowsF m (t + n)).map iT)), s4, s5, s6, s7]
  | 0, t, _, ks, hk, s2, fr, s5, s6, s7 => by
    rw [List.eq_nil_of_length_eq_zero hk]
    exact ⟨rfl, _, _, _, _, _, rfl⟩
  | n + 1, t, h, ks, hk, s2, fr, s5, s6, s7 => by
    cases ks with
    | nil => simp at hk
    | cons k ks =>
      unfold forL
      rw [r_gN]
      refine O.wp_bind (O.wp_mono (rows_turn m t hm (by omega) s1 (some (false, k)) fr s5 s6 s7) fun r hr => ?_)
      obtain ⟨k1, fr', s5', s6', k2⟩ := hr
      obtain ⟨fl, ρ⟩ := r
      cases k1
      dsimp only at k2
      subst k2
      have ih := rows_loop m hm s1 n (t + 1) (by omega) ks (by simpa using hk) (some (false, k)) fr' s5' s6' s7
      have e : t + 1 + n = t + (n + 1) := by omega
      rw [e] at ih
      exact ih
theorem rows_ok (m t : Nat) (hm : m ≤ 6) (ht : t ≤ 6) : d_law_rows [.int m, .int t] = .ok (true, .lst ((rowsF m t).map iT), []) := by
  obtain ⟨⟨fl, ρ⟩, er, k1, s2, s4, s5, s6, s7, k2⟩ := O.wp_ex (rows_loop m hm (some (false, .int t)) t 0 (by omega) ((ups t).map .int) (by simp) none true none none none)
  cases k1
  dsimp only at k2
  subst k2
  rw [Nat.zero_add] at er
  have hg := rg1_ok (j := (t : Int)) (by omega) (by omega)
  rw [Int.toNat_natCast] at hg
  unfold d_law_rows b_law_rows
  rw [run2]
  simp only [List.replicate]
  have e0 : sPar [(3, (fLst [(fTup [])])), (4, (fLst [(fTup [])]))] [some (false, .int m), some (false, .int t), none, none, none, none, none, none] = .ok (.nx, [some (false, .int m), some (false, .int t), none, some (true, .lst [iT []]), some (true, .lst [iT []]), none, none, none]) := rfl
  rw [r_seq, e0, O.bind_ok]
  show finF false (sSeq (sFor (fRg rg1 [(.var 1)]) (gN 2) bRow1) (sRet (fMv 3)) [some (false, .int m), some (false, .int t), none, some (true, .lst [iT []]), some (true, .lst [iT []]), none, none, none]) = _
  have e1 : fRg rg1 [(.var 1)] [some (false, .int m), some (false, .int t), none, some (true, .lst [iT []]), some (true, .lst [iT []]), none, none, none] = .ok ((ups t).map .int, [some (false, .int m), some (false, .int t), none, some (true, .lst [iT []]), some (true, .lst [iT []]), none, none, none]) := by
    generalize (t : Int) = tt at hg
    generalize (m : Int) = mm
    simp [hg]
  rw [r_seq, r_for, e1, O.bind_ok]
  have er' : forL (gN 2) bRow1 ((ups t).map .int) [some (false, .int m), some (false, .int t), none, some (true, .lst [iT []]), some (true, .lst [iT []]), none, none, none] = _ := er
  rw [er', O.bind_ok]
  rfl
end H
namespace H
set_option autoImplicit false
open PySem L2 U
/-! ### _law_is_plain -/
theorem eqDL_ints : ∀ a b : List Int, eqDL (a.map .int) (b.map .int) = decide (a = b)
  | [], [] => rfl
  | [], y :: b => rfl
  | x :: a, [] => rfl
  | x :: a, y :: b => by
    rw [List.map_cons, List.map_cons, eqDL, eqDL_ints a b]
    have : eqD (.int x) (.int y) = (x == y) := by unfold eqD; rfl
    rw [this]
    by_cases h : x = y
    · subst h; by_cases h2 : a = b <;> simp [h2]
    · simp [h]
theorem eqD_iT (a b : List Int) : eqD (iT a) (iT b) = decide (a = b) := by
  unfold iT; rw [eqD, eqDL_ints]
theorem good_iT (a : List Int) : D.good (iT a) = true := good_ints a 59
theorem v_neT (a b : List Int) : dNe (iT a) (iT b) = some (!decide (a = b)) := by
  unfold dNe
  rw [if_pos (by rw [good_iT, good_iT]; rfl), eqD_iT]
theorem v_eqT (a b : List Int) : dEq (iT a) (iT b) = some (decide (a = b)) := by
  unfold dEq
  rw [if_pos (by rw [good_iT, good_iT]; rfl), eqD_iT]
def plain1 (many : Int) (rows : List (List Int)) (run : List Int) (d : Int) : Bool := decide (d ∈ run) || decide (mapOf many rows (d :: (run ++ [d])) = mapOf many rows (run ++ [d]))
def plainB (many : Int) (rows : List (List Int)) : Bool := (rowsF rows.length (rows.length - 1)).all fun run => (ups rows.length).all fun d => plain1 many rows run d
section
variable {many : Int} {rows : List (List Int)}
theorem plain_body (S : SysOk many rows) (run : List Int) (d : Int) (hr : RunOk rows run) (hl : run.length ≤ 100) (hd : 0 ≤ d ∧ d < rows.length) (s1 : Option (Bool × D)) :
    sIf (tAn (tOp2 dNotIn (.var 3) (.var 2)) (tOp2 dNe (.val (fCall d_law_map [(.var 0), (.val (op2 dAdd (.val (op2 dAdd (.val (fTup [(fVar 3)])) (.var 2))) (.val (fTup [(fVar 3)]))))])) (.val (fCall d_law_map [(.var 0), (.val (op2 dAdd (.var 2) (.val (fTup [(fVar 3)]))))])))) (sRet (fC (.bl false))) sNil
      [some (false, sysD many rows), s1, some (false, iT run), some (false, .int d)] = .ok (if plain1 many rows run d then .nx else .rt false (.bl false), [some (false, sysD many rows), s1, some (false, iT run), some (false, .int d)]) := by
  have h1 : dNotIn (.int d) (iT run) = some (!decide (d ∈ run)) := v_notInT d run
  have h2 : dAdd (.tup [.int d]) (iT run) = some (false, iT ([d] ++ run)) := v_addT [d] run (by rw [List.length_singleton]; omega)
  have h3 : dAdd (iT ([d] ++ run)) (.tup [.int d]) = some (false, iT (([d] ++ run) ++ [d])) := v_addT ([d] ++ run) [d] (by rw [List.length_append, List.length_singleton]; omega)
  have h4 : dAdd (iT run) (.tup [.int d]) = some (false, iT (run ++ [d])) := v_addT run [d] (by rw [List.length_singleton]; omega)
  have hd1 : RunOk rows [d] := fun z hz => by rw [List.mem_singleton.mp hz]; exact hd
  have ap : ∀ {a b : List Int}, RunOk rows a → RunOk rows b → RunOk rows (a ++ b) := fun ha hb z hz => (List.mem_append.mp hz).elim (ha z) (hb z)
  have m1 := lawMap_ok S (ap (ap hd1 hr) hd1)
  have m2 := lawMap_ok S (ap hr hd1)
  have h5 := v_neT (mapOf many rows (([d] ++ run) ++ [d])) (mapOf many rows (run ++ [d]))
  have e : ([d] ++ run) ++ [d] = d :: (run ++ [d]) := rfl
  unfold plain1
  by_cases hm : d ∈ run
  · simp [h1, hm]
  · rw [e] at m1 h5 h3
    generalize mapOf many rows (d :: (run ++ [d])) = M1 at m1 h5
    generalize mapOf many rows (run ++ [d]) = M2 at m2 h5
    have h2' : dAdd (.tup [.int d]) (iT run) = some (false, iT (d :: run)) := h2
    have h3' : dAdd (iT (d :: run)) (.tup [.int d]) = some (false, iT (d :: (run ++ [d]))) := h3
    by_cases hM : M1 = M2
    · subst hM
      simp [h1, hm, h2', h3', h4, q_map, m1, m2, h5]
    · simp [h1, hm, h2', h3', h4, q_map, m1, m2, h5, hM]
abbrev bPl : SF := (sIf (tAn (tOp2 dNotIn (.var 3) (.var 2)) (tOp2 dNe (.val (fCall d_law_map [(.var 0), (.val (op2 dAdd (.val (op2 dAdd (.val (fTup [(fVar 3)])) (.var 2))) (.val (fTup [(fVar 3)]))))])) (.val (fCall d_law_map [(.var 0), (.val (op2 dAdd (.var 2) (.val (fTup [(fVar 3)]))))]))))
    (sRet (fC (.bl false)))
    sNil)
theorem plain_in (S : SysOk many rows) (run : List Int) (hr : RunOk rows run) (hl : run.length ≤ 100) (s1 : Option (Bool × D)) : ∀ (ds : List Int) (s3 : Option (Bool × D)), (∀ d ∈ ds, 0 ≤ d ∧ d < rows.length) →
    (forL (gN 3) bPl (ds.map .int) [some (false, sysD many rows), s1, some (false, iT run), s3]).wp fun r => (∃ s3, r.2 = [some (false, sysD many rows), s1, some (false, iT run), s3]) ∧ r.1 = if ds.all (plain1 many rows run) then .nx else .rt false (.bl false)
  | [], s3, _ => ⟨⟨s3, rfl⟩, rfl⟩
  | d :: ds, s3, h => by
    have hb := plain_body S run d hr hl (h d List.mem_cons_self) s1
    rw [List.map_cons]
    unfold forL
    rw [r_gN]
    refine O.wp_bind (O.wp_of hb ?_)
    rw [List.all_cons]
    cases hp : plain1 many rows run d with
    | true =>
      rw [if_pos rfl, Bool.true_and]
      exact plain_in S run hr hl s1 ds _ fun z hz => h z (List.mem_cons_of_mem _ hz)
    | false =>
      rw [if_neg Bool.false_ne_true, Bool.false_and, if_neg Bool.false_ne_true]
      exact ⟨⟨_, rfl⟩, rfl⟩
theorem plain_out (S : SysOk many rows) (hn : rows.length ≤ 6) : ∀ (runs : List (List Int)) (s2 s3 : Option (Bool × D)), (∀ r ∈ runs, RunOk rows r ∧ r.length ≤ 100) →
    (forL (gN 2) (sFor (fRg rg1 [(.var 1)]) (gN 3) bPl) (runs.map iT) [some (false, sysD many rows), some (false, .int rows.length), s2, s3]).wp fun r => (∃ s2 s3, r.2 = [some (false, sysD many rows), some (false, .int rows.length), s2, s3]) ∧ r.1 = if runs.all (fun run => (ups rows.length).all fun d => plain1 many rows run d) then .nx else .rt false (.bl false)
  | [], s2, s3, _ => ⟨⟨s2, s3, rfl⟩, rfl⟩
  | run :: runs, s2, s3, h => by
    have hr := h run List.mem_cons_self
    have hin := plain_in S run hr.1 hr.2 (some (false, .int rows.length)) (ups rows.length) s3 fun d hd => by have := ups_mem hd; omega
    have hg := rg1_ok (j := (rows.length : Int)) (by omega) (by omega)
    rw [Int.toNat_natCast] at hg
    have e1 : fRg rg1 [(.var 1)] [some (false, sysD many rows), some (false, .int rows.length), some (false, iT run), s3] = .ok ((ups rows.length).map .int, [some (false, sysD many rows), some (false, .int rows.length), some (false, iT run), s3]) := by
      generalize (rows.length : Int) = tt at hg
      simp [hg]
    rw [List.map_cons]
    unfold forL
    rw [r_gN]
    refine O.wp_bind ?_
    show (sFor (fRg rg1 [(.var 1)]) (gN 3) bPl [some (false, sysD many rows), some (false, .int rows.length), some (false, iT run), s3]).wp _
    rw [r_for, e1, O.bind_ok]
    refine O.wp_mono hin fun r hh => ?_
    obtain ⟨⟨s3', k1⟩, k2⟩ := hh
    obtain ⟨fl, ρ⟩ := r
    dsimp only at k1 k2
    subst k1
    simp only [List.all_cons]
    by_cases hp : (ups rows.length).all (plain1 many rows run) = true
    · rw [if_pos hp] at k2
      subst k2
      have hp' : (ups rows.length).all (fun d => plain1 many rows run d) = true := hp
      simp only [hp', Bool.true_and]
      exact plain_out S hn runs _ _ fun z hz => h z (List.mem_cons_of_mem _ hz)
    · rw [if_neg hp] at k2
      subst k2
      have hp' : (ups rows.length).all (fun d => plain1 many rows run d) = false := by simpa using hp
      simp only [hp', Bool.false_and]
      exact ⟨⟨_, _, rfl⟩, rfl⟩
theorem plain_ok (S : SysOk many rows) (h0 : 0 < rows.length) (hn : rows.length ≤ 6) : d_law_is_plain [sysD many rows] = .ok (false, .bl (plainB many rows), []) := by
  have hruns : ∀ r ∈ rowsF rows.length (rows.length - 1), RunOk rows r ∧ r.length ≤ 100 := fun r hr => by
    obtain ⟨h1, h2, h3⟩ := rowsF_mem _ _ r hr
    exact ⟨fun z hz => by have := h3 z hz; omega, by omega⟩
  obtain ⟨⟨fl, ρ⟩, er, ⟨s2, s3, k1⟩, k2⟩ := O.wp_ex (plain_out S hn (rowsF rows.length (rows.length - 1)) none none hruns)
  dsimp only at k1 k2
  subst k1
  have hr := rows_ok rows.length (rows.length - 1) hn (by omega)
  have hs : (rows.length : Int) - 1 = ((rows.length - 1 : Nat) : Int) := by omega
  have e1 : fIt (fCall d_law_rows [(.var 1), (.val (op2 dSub (.var 1) (.val (fC (.int 1)))))]) [some (false, sysD many rows), some (false, .int rows.length), none, none] = .ok ((rowsF rows.length (rows.length - 1)).map iT, [some (false, sysD many rows), some (false, .int rows.length), none, none]) := by
    have himm := imm_rowsL (rowsF rows.length (rows.length - 1))
    rw [← hs] at hr
    generalize (rows.length : Int) = tt at hr
    simp [hr, himm]
  unfold d_law_is_plain b_law_is_plain
  rw [run1]
  simp only [List.replicate]
  have e0 : sSet 1 (opN dLen [(.val (op2 dIx (.var 0) (.val (fC (.int 1)))))]) [some (false, sysD many rows), none, none, none] = .ok (.nx, [some (false, sysD many rows), some (false, .int rows.length), none, none]) := by simp
  rw [r_seq, e0, O.bind_ok]
  show finF false (sSeq (sFor (fIt (fCall d_law_rows [(.var 1), (.val (op2 dSub (.var 1) (.val (fC (.int 1)))))])) (gN 2) (sFor (fRg rg1 [(.var 1)]) (gN 3) bPl)) (sRet (fC (.bl true))) [some (false, sysD many rows), some (false, .int rows.length), none, none]) = _
  rw [r_seq, r_for, e1, O.bind_ok, er, O.bind_ok]
  unfold plainB
  cases hp : (rowsF rows.length (rows.length - 1)).all (fun run => (ups rows.length).all fun d => plain1 many rows run d) with
  | true => rw [hp, if_pos rfl] at k2; subst k2; rfl
  | false => rw [hp, if_neg Bool.false_ne_true] at k2; subst k2; rfl
end
end H
namespace H
set_option autoImplicit false
open PySem L2 U
/-! ### _law_set -/
def oD : Option Int → D
  | none => .non
  | some i => .int i
def pD (p : List (Option Int)) : D := .tup (p.map oD)
def setF : List (Option Int) → List Int → List Int
  | p :: ps, b :: bs => p.getD b :: setF ps bs
  | _, _ => []
theorem setF_len : ∀ (p : List (Option Int)) (b : List Int), p.length = b.length → (setF p b).length = b.length
  | [], [], _ => rfl
  | [], _ :: _, h => by simp at h
  | _ :: _, [], h => by simp at h
  | p :: ps, b :: bs, h => by rw [setF, List.length_cons, setF_len ps bs (by simpa using h), List.length_cons]
theorem zp_set : ∀ (p : List (Option Int)) (b : List Int), ∀ d ∈ zpD (p.map oD) (b.map .int), ∃ x y, d = .tup [oD x, .int y]
  | [], _, d, h => by simp [zpD] at h
  | _ :: _, [], d, h => by simp [zpD] at h
  | p :: ps, b :: bs, d, h => by
    rw [List.map_cons, List.map_cons, zpD] at h
    rcases List.mem_cons.mp h with e | e
    · exact ⟨p, b, e⟩
    · exact zp_set ps bs d e
def getS : D → D
  | .tup [.non, .int y] => .int y
  | .tup [.int x, .int _] => .int x
  | _ => .non
theorem zp_map : ∀ (p : List (Option Int)) (b : List Int), (zpD (p.map oD) (b.map .int)).map getS = (setF p b).map .int
  | [], _ => by simp [zpD, setF]
  | _ :: _, [] => by simp [zpD, setF]
  | p :: ps, b :: bs => by
    rw [List.map_cons, List.map_cons, zpD, List.map_cons, zp_map ps bs, setF, List.map_cons]
    cases p <;> rfl
theorem set_ok (p : List (Option Int)) (b : List Int) (hl : b.length ≤ 1000) : d_law_set [pD p, iT b] = .ok (false, iT (setF p b), []) := by
  have hz : fZip (fVar 0) (fVar 1) [some (false, pD p), some (false, iT b), none, none] = .ok (zpD (p.map oD) (b.map .int), [some (false, pD p), some (false, iT b), none, none]) := by
    simp
    simp [pD, iT, D.isTup]
  have hc := fLc_map (vs := [2, 3]) (t := gT [(gN 2), (gN 3)]) (f := fIf (tOp2 dIsN (.var 2) (.val (fC .non))) (fVar 3) (fVar 2)) getS hz rfl (by rw [zpD_len]; simp; omega) fun d hd => by
    obtain ⟨x, y, rfl⟩ := zp_set p b d hd
    refine ⟨_, false, [some (false, pD p), some (false, iT b), some (false, oD x), some (false, .int y)], rfl, ?_, rfl⟩
    cases x with
    | none => simp [wipeE, oD, dIsN, D.isNon, getS]
    | some x => simp [wipeE, oD, dIsN, D.isNon, getS]
  rw [zp_map] at hc
  unfold d_law_set b_law_set
  rw [run2]
  simp only [List.replicate]
  rw [r_ret, r_opN, r_evs1, r_pv, hc]
  rfl
/-! ### lists without doubles within a list -/
theorem len_le_of_sub {α : Type} [DecidableEq α] : ∀ {l l' : List α}, l.Nodup → (∀ x ∈ l, x ∈ l') → l.length ≤ l'.length
  | [], l', _, _ => Nat.zero_le _
  | x :: l, l', h, hs => by
    have h' := List.nodup_cons.mp h
    have hx := hs x List.mem_cons_self
    have := len_le_of_sub (l := l) (l' := l'.erase x) h'.2 fun y hy => (List.mem_erase_of_ne fun e => h'.1 (by rw [← e]; exact hy)).mpr (hs y (List.mem_cons_of_mem _ hy))
    rw [List.length_erase_of_mem hx] at this
    have : 0 < l'.length := List.length_pos_of_mem hx
    rw [List.length_cons]
    omega
def allB : Nat → List (List Int)
  | 0 => [[]]
  | n + 1 => (allB n).flatMap fun l => [0 :: l, 1 :: l, 2 :: l]
theorem allB_mem : ∀ (n : Nat) (l : List Int), l.length = n → (∀ z ∈ l, 0 ≤ z ∧ z < 3) → l ∈ allB n
  | 0, l, h, _ => by rw [List.eq_nil_of_length_eq_zero h]; exact List.mem_singleton.mpr rfl
  | n + 1, [], h, _ => by simp at h
  | n + 1, x :: l, h, hz => by
    have hx := hz x List.mem_cons_self
    have := allB_mem n l (by simpa using h) fun z hz' => hz z (List.mem_cons_of_mem _ hz')
    refine List.mem_flatMap.mpr ⟨l, this, ?_⟩
    have : x = 0 ∨ x = 1 ∨ x = 2 := by omega
    rcases this with e | e | e <;> simp [e]
/-- a board of f fields -/
def BdOk (f : Nat) (b : List Int) : Prop := b.length = f ∧ ∀ z ∈ b, 0 ≤ z ∧ z < 3
theorem boards_len {f : Nat} (hf : f ≤ 3) {bs : List (List Int)} (hn : bs.Nodup) (h : ∀ b ∈ bs, BdOk f b) : bs.length ≤ 27 := by
  have := len_le_of_sub hn fun b hb => allB_mem f b (h b hb).1 (h b hb).2
  have h2 : (allB f).length ≤ 27 := by
    have : f = 0 ∨ f = 1 ∨ f = 2 ∨ f = 3 := by omega
    rcases this with e | e | e | e <;> subst e <;> decide
  omega
theorem setF_ok {f : Nat} : ∀ {p : List (Option Int)} {b : List Int}, p.length = b.length → (∀ x ∈ p, ∀ i, x = some i → 0 ≤ i ∧ i < 3) → (∀ z ∈ b, 0 ≤ z ∧ z < 3) → ∀ z ∈ setF p b, 0 ≤ z ∧ z < 3
  | [], [], _, _, _, z, hz => by simp [setF] at hz
  | [], _ :: _, h, _, _, _, _ => by simp at h
  | _ :: _, [], h, _, _, _, _ => by simp at h
  | p :: ps, b :: bs, h, hp, hb, z, hz => by
    rw [setF] at hz
    rcases List.mem_cons.mp hz with e | e
    · rw [e]
      cases p with
      | none => exact hb b List.mem_cons_self
      | some i => exact hp _ List.mem_cons_self i rfl
    · exact setF_ok (f := f) (by simpa using h) (fun x hx => hp x (List.mem_cons_of_mem _ hx)) (fun x hx => hb x (List.mem_cons_of_mem _ hx)) z e
/-! ### places of tuples of ints in a list -/
theorem any_iT (x : List Int) : ∀ ys : List (List Int), (ys.map iT).any (fun z => eqD z (iT x)) = decide (x ∈ ys)
  | [] => rfl
  | y :: ys => by
    rw [List.map_cons, List.any_cons, any_iT x ys, eqD_iT]
    by_cases h : x = y
    · subst h; simp
    · have h' : ¬ y = x := fun z => h z.symm
      simp [h, h']
theorem good_rows (n : Nat) : ∀ ys : List (List Int), (ys.map iT).all (D.okN (n + 1)) = true := fun ys => by
  rw [List.all_eq_true]
  intro z hz
  obtain ⟨i, _, rfl⟩ := List.mem_map.mp hz
  exact good_ints i n
theorem v_notInR (x : List Int) (ys : List (List Int)) : dNotIn (iT x) (.lst (ys.map iT)) = some (!decide (x ∈ ys)) := by
  unfold dNotIn dIn; dsimp only; unfold dInS
  dsimp only
  have h2 : D.good (.lst (ys.map iT)) = true := good_rows 58 ys
  rw [if_pos (by rw [h2, good_iT]; rfl), any_iT]
  rfl
theorem first_iT (x : List Int) : ∀ ys : List (List Int), x ∈ ys → firstD (iT x) (ys.map iT) = some (ys.idxOf x)
  | [], h => (List.not_mem_nil h).elim
  | y :: ys, h => by
    rw [List.map_cons, firstD, eqD_iT]
    by_cases e : y = x
    · subst e; simp
    · have hx : x ∈ ys := (List.mem_cons.mp h).resolve_left fun z => e z.symm
      rw [if_neg (by simp [e]), first_iT x ys hx, List.idxOf_cons]
      have eb : (y == x) = false := by simpa using e
      rw [eb]
      rfl
theorem v_index (x : List Int) (ys : List (List Int)) (h : x ∈ ys) : dIndex (.lst (ys.map iT)) (iT x) = some (false, .int (ys.idxOf x)) := by
  unfold dIndex
  dsimp only
  have h2 : D.good (.lst (ys.map iT)) = true := good_rows 58 ys
  rw [if_pos (by rw [h2, good_iT]; rfl), first_iT x ys h]
  rfl
@[simp] theorem r_index (p q : Pk) (ρ : En) : fIndex p q ρ = (p.ev ρ).bind fun a => match p.get a.1 a.2 with
  | some (.lst _) => (q.ev a.2).bind fun b => get2 dIndex (p.get a.1 b.2) (q.get b.1 b.2) b.2
  | _ => .bad := by unfold fIndex; rfl
end H
namespace H
set_option autoImplicit false
open PySem L2 U
/-! ### _law_settings -/
/-- its slots -/
abbrev Q (es : List D) (dd : Int) (s2 s3 s4 s5 s6 s7 s8 s9 s10 s11 s12 s13 s14 s15 : Option (Bool × D)) : En :=
  [some (true, .lst es), some (false, .int dd), s2, s3, s4, s5, s6, s7, s8, s9, s10, s11, s12, s13, s14, s15]
def PtOk (f : Nat) (p : List (Option Int)) : Prop := p.length = f ∧ ∀ x ∈ p, ∀ i, x = some i → 0 ≤ i ∧ i < 3
def Adds (f : Nat) (acc acc' : List (List Int)) : Prop := acc'.Nodup ∧ (∀ b ∈ acc', BdOk f b) ∧ ∃ more, acc' = acc ++ more
theorem pD_mem {f : Nat} {p : List (Option Int)} {b : List Int} (hp : PtOk f p) (hb : BdOk f b) : BdOk f (setF p b) :=
  ⟨by rw [setF_len p b (hp.1.trans hb.1.symm), hb.1], setF_ok (f := f) (hp.1.trans hb.1.symm) hp.2 hb.2⟩
/-- one board's followers are laid -/
theorem close_parts (es : List D) (dd : Int) (s2 s3 s4 s5 s6 s7 s8 s9 s13 s15 : Option (Bool × D)) {f : Nat} (hf : f ≤ 3) (spot : Nat) : ∀ (ps : List (List (Option Int))) (bs : List (List Int)) (s10 s14 : Option (Bool × D)), (∀ p ∈ ps, PtOk f p) → bs.Nodup → (∀ b ∈ bs, BdOk f b) → (hs : spot < bs.length) →
    (forL (gN 10) b_law_settings_2 (ps.map pD) (Q es dd s2 s3 s4 s5 s6 s7 s8 s9 s10 (some (true, .lst (bs.map iT))) (some (false, .int spot)) s13 s14 s15)).wp fun r => r.1 = .nx ∧ ∃ bs' s10 s14, r.2 = Q es dd s2 s3 s4 s5 s6 s7 s8 s9 s10 (some (true, .lst (bs'.map iT))) (some (false, .int spot)) s13 s14 s15 ∧ Adds f bs bs' ∧ ∀ p ∈ ps, setF p bs[spot] ∈ bs'
  | [], bs, s10, s14, _, hn, hb, hs => ⟨rfl, bs, s10, s14, rfl, ⟨hn, hb, [], by simp⟩, fun p hp => (List.not_mem_nil hp).elim⟩
  | p :: ps, bs, s10, s14, hps, hn, hb, hs => by
    have hp := hps p List.mem_cons_self
    have hbb := hb _ (List.getElem_mem hs)
    have hl27 := boards_len hf hn hb
    have hset := set_ok p bs[spot] (by rw [hbb.1]; omega)
    have hix : dIx (.lst (bs.map iT)) (.int spot) = some (false, iT bs[spot]) := by
      unfold dIx; dsimp only; unfold dIxS atI ixN
      dsimp only
      rw [if_pos (by omega), List.length_map, if_pos (by omega)]
      simp [hs]
    have hnot := v_notInR (setF p bs[spot]) bs
    have himm := imm_iT (setF p bs[spot])
    have e1 : sSet 14 (fCall d_law_set [(.var 10), (.val (op2 dIx (.var 11) (.var 12)))]) (Q es dd s2 s3 s4 s5 s6 s7 s8 s9 (some (false, pD p)) (some (true, .lst (bs.map iT))) (some (false, .int spot)) s13 s14 s15) =
        .ok (.nx, Q es dd s2 s3 s4 s5 s6 s7 s8 s9 (some (false, pD p)) (some (true, .lst (bs.map iT))) (some (false, .int spot)) s13 (some (false, iT (setF p bs[spot]))) s15) := by
      generalize (spot : Int) = sp at hix
      generalize bs[spot] = bd at hix hset himm
      simp [hix, hset]
    rw [List.map_cons]
    unfold forL
    rw [r_gN]
    refine O.wp_bind ?_
    show (b_law_settings_2 (Q es dd s2 s3 s4 s5 s6 s7 s8 s9 (some (false, pD p)) (some (true, .lst (bs.map iT))) (some (false, .int spot)) s13 s14 s15)).wp _
    unfold b_law_settings_2
    by_cases hm : setF p bs[spot] ∈ bs
    · have hb1 : (sSeq (sSet 14 (fCall d_law_set [(.var 10), (.val (op2 dIx (.var 11) (.var 12)))])) (sIf (tOp2 dNotIn (.var 14) (.var 11)) (sExp (fMut mApp 11 [(fVar 14)])) sNil)) (Q es dd s2 s3 s4 s5 s6 s7 s8 s9 (some (false, pD p)) (some (true, .lst (bs.map iT))) (some (false, .int spot)) s13 s14 s15) =
          .ok (.nx, Q es dd s2 s3 s4 s5 s6 s7 s8 s9 (some (false, pD p)) (some (true, .lst (bs.map iT))) (some (false, .int spot)) s13 (some (false, iT (setF p bs[spot]))) s15) := by
        rw [r_seq, e1, O.bind_ok]
        generalize (spot : Int) = sp
        generalize setF p bs[spot] = sb at hnot hm
        simp [hnot, hm]
      refine O.wp_of hb1 ?_
      refine O.wp_mono (close_parts es dd s2 s3 s4 s5 s6 s7 s8 s9 s13 s15 hf spot ps bs _ _ (fun z hz => hps z (List.mem_cons_of_mem _ hz)) hn hb hs) fun r h => ?_
      obtain ⟨k1, bs', t10, t14, k2, k3, k4⟩ := h
      refine ⟨k1, bs', t10, t14, k2, k3, fun z hz => ?_⟩
      rcases List.mem_cons.mp hz with e | e
      · rw [e]
        obtain ⟨_, _, more, rfl⟩ := k3
        exact List.mem_append_left _ hm
      · exact k4 z e
    · have happ : mApp (bs.map iT) [iT (setF p bs[spot])] = some (.non, (bs ++ [setF p bs[spot]]).map iT) := by
        unfold mApp
        dsimp only
        rw [if_pos (by rw [List.length_map]; omega), List.map_append]
        rfl
      have hb1 : (sSeq (sSet 14 (fCall d_law_set [(.var 10), (.val (op2 dIx (.var 11) (.var 12)))])) (sIf (tOp2 dNotIn (.var 14) (.var 11)) (sExp (fMut mApp 11 [(fVar 14)])) sNil)) (Q es dd s2 s3 s4 s5 s6 s7 s8 s9 (some (false, pD p)) (some (true, .lst (bs.map iT))) (some (false, .int spot)) s13 s14 s15) =
          .ok (.nx, Q es dd s2 s3 s4 s5 s6 s7 s8 s9 (some (false, pD p)) (some (true, .lst ((bs ++ [setF p bs[spot]]).map iT))) (some (false, .int spot)) s13 (some (false, iT (setF p bs[spot]))) s15) := by
        rw [r_seq, e1, O.bind_ok]
        generalize (spot : Int) = sp
        generalize setF p bs[spot] = sb at hnot hm happ
        simp [hnot, hm, happ]
      refine O.wp_of hb1 ?_
      have hs2 : spot < (bs ++ [setF p bs[spot]]).length := by rw [List.length_append]; omega
      have hn2 : (bs ++ [setF p bs[spot]]).Nodup := by
        rw [List.nodup_append]
        refine ⟨hn, List.nodup_cons.mpr ⟨List.not_mem_nil, List.nodup_nil⟩, fun a ha b hb e => ?_⟩
        rw [List.mem_singleton.mp hb] at e
        exact hm (by rw [← e]; exact ha)
      have hb2 : ∀ b ∈ bs ++ [setF p bs[spot]], BdOk f b := fun b hb' => by
        rcases List.mem_append.mp hb' with q | q
        · exact hb b q
        · rw [List.mem_singleton.mp q]; exact pD_mem hp hbb
      have hget : (bs ++ [setF p bs[spot]])[spot] = bs[spot] := List.getElem_append_left hs
      refine O.wp_mono (close_parts es dd s2 s3 s4 s5 s6 s7 s8 s9 s13 s15 hf spot ps _ _ _ (fun z hz => hps z (List.mem_cons_of_mem _ hz)) hn2 hb2 hs2) fun r h => ?_
      obtain ⟨k1, bs', t10, t14, k2, ⟨k3, k4, more, k5⟩, k6⟩ := h
      refine ⟨k1, bs', t10, t14, k2, ⟨k3, k4, setF p bs[spot] :: more, by rw [k5, List.append_assoc]; rfl⟩, fun z hz => ?_⟩
      rcases List.mem_cons.mp hz with e | e
      · rw [e, k5]
        exact List.mem_append_left _ (List.mem_append_right _ (List.mem_singleton.mpr rfl))
      · rw [← hget]; exact k6 z e
end H
namespace H
set_option autoImplicit false
open PySem L2 U
def Clo (ps : List (List (Option Int))) (bs : List (List Int)) : Prop := ∀ b ∈ bs, ∀ p ∈ ps, setF p b ∈ bs
theorem close_loop (es : List D) (dd : Int) (s2 s4 s5 s6 s7 s9 s13 s15 : Option (Bool × D)) {f : Nat} (hf : f ≤ 3) (ps : List (List (Option Int))) (hps : ∀ p ∈ ps, PtOk f p) : ∀ (n : Nat) (ks : List D), ks.length = n → ∀ (spot : Nat) (bs : List (List Int)) (fr : Bool) (s8 s10 s14 : Option (Bool × D)), spot + n = 60 → spot ≤ bs.length → bs.Nodup → (∀ b ∈ bs, BdOk f b) → (∀ (i : Nat) (b : List Int), i < spot → bs[i]? = some b → ∀ p ∈ ps, setF p b ∈ bs) → bs ≠ [] →
    (forL (gN 8) b_law_settings_4 ks (Q es dd s2 (some (fr, .lst (ps.map pD))) s4 s5 s6 s7 s8 s9 s10 (some (true, .lst (bs.map iT))) (some (false, .int spot)) s13 s14 s15)).wp fun r => r.1 = .nx ∧ ∃ (bs' : List (List Int)) (fr : Bool) (s8 s10 s12 s14 : Option (Bool × D)), r.2 = Q es dd s2 (some (fr, .lst (ps.map pD))) s4 s5 s6 s7 s8 s9 s10 (some (true, .lst (bs'.map iT))) s12 s13 s14 s15 ∧ bs'.Nodup ∧ (∀ b ∈ bs', BdOk f b) ∧ Clo ps bs' ∧ bs' ≠ []
  | 0, ks, hk, spot, bs, fr, s8, s10, s14, h1, h2, hn, hb, hc, hne => by
    have := boards_len hf hn hb
    omega
  | n + 1, ks, hk, spot, bs, fr, s8, s10, s14, h1, h2, hn, hb, hc, hne => by
    cases ks with
    | nil => simp at hk
    | cons k ks =>
      have hl27 := boards_len hf hn hb
      have heq : ((spot : Int) == ((bs.map iT).length : Int)) = decide (spot = bs.length) := by
        rw [List.length_map]
        by_cases h : spot = bs.length
        · subst h; simp
        · have h' : ¬ (spot : Int) = (bs.length : Int) := fun z => h (by omega)
          rw [decide_eq_false h]
          exact beq_eq_false_iff_ne.mpr h'
      unfold forL
      rw [r_gN]
      refine O.wp_bind ?_
      show (b_law_settings_4 (Q es dd s2 (some (fr, .lst (ps.map pD))) s4 s5 s6 s7 (some (false, k)) s9 s10 (some (true, .lst (bs.map iT))) (some (false, .int spot)) s13 s14 s15)).wp _
      unfold b_law_settings_4
      have etest : tOp2 dEq (.var 12) (.val (opN dLen [(.var 11)])) (Q es dd s2 (some (fr, .lst (ps.map pD))) s4 s5 s6 s7 (some (false, k)) s9 s10 (some (true, .lst (bs.map iT))) (some (false, .int spot)) s13 s14 s15) = .ok (decide (spot = bs.length), Q es dd s2 (some (fr, .lst (ps.map pD))) s4 s5 s6 s7 (some (false, k)) s9 s10 (some (true, .lst (bs.map iT))) (some (false, .int spot)) s13 s14 s15) := by
        rw [← heq]
        generalize (spot : Int) = sp
        simp
      by_cases hsp : spot = bs.length
      · have e1 : sIf (tOp2 dEq (.var 12) (.val (opN dLen [(.var 11)]))) sBk sNil (Q es dd s2 (some (fr, .lst (ps.map pD))) s4 s5 s6 s7 (some (false, k)) s9 s10 (some (true, .lst (bs.map iT))) (some (false, .int spot)) s13 s14 s15) = .ok (.bk, Q es dd s2 (some (fr, .lst (ps.map pD))) s4 s5 s6 s7 (some (false, k)) s9 s10 (some (true, .lst (bs.map iT))) (some (false, .int spot)) s13 s14 s15) := by
          rw [r_sIf, etest, O.bind_ok, if_pos (by simp [hsp])]
          rfl
        rw [r_seq, e1, O.bind_ok]
        refine ⟨rfl, bs, fr, _, _, _, _, rfl, hn, hb, fun b hbm p hp => ?_, hne⟩
        obtain ⟨i, hi⟩ := List.mem_iff_getElem?.mp hbm
        have hil : i < bs.length := (List.getElem?_eq_some_iff.mp hi).1
        exact hc i b (by omega) hi p hp
      · have hlt : spot < bs.length := by omega
        have e1 : sIf (tOp2 dEq (.var 12) (.val (opN dLen [(.var 11)]))) sBk sNil (Q es dd s2 (some (fr, .lst (ps.map pD))) s4 s5 s6 s7 (some (false, k)) s9 s10 (some (true, .lst (bs.map iT))) (some (false, .int spot)) s13 s14 s15) = .ok (.nx, Q es dd s2 (some (fr, .lst (ps.map pD))) s4 s5 s6 s7 (some (false, k)) s9 s10 (some (true, .lst (bs.map iT))) (some (false, .int spot)) s13 s14 s15) := by
          rw [r_sIf, etest, O.bind_ok, if_neg (by simp [hsp])]
          rfl
        rw [r_seq, e1, O.bind_ok]
        show (b_law_settings_3 _).wp _
        unfold b_law_settings_3
        have hit : fIt (fVar 3) (Q es dd s2 (some (fr, .lst (ps.map pD))) s4 s5 s6 s7 (some (false, k)) s9 s10 (some (true, .lst (bs.map iT))) (some (false, .int spot)) s13 s14 s15) = .ok (ps.map pD, Q es dd s2 (some (false, .lst (ps.map pD))) s4 s5 s6 s7 (some (false, k)) s9 s10 (some (true, .lst (bs.map iT))) (some (false, .int spot)) s13 s14 s15) := by
          generalize (spot : Int) = sp
          simp
        refine seq_wp ?_
        rw [r_for, hit, O.bind_ok]
        refine O.wp_mono (close_parts es dd s2 (some (false, .lst (ps.map pD))) s4 s5 s6 s7 (some (false, k)) s9 s13 s15 hf spot ps bs s10 s14 hps hn hb hlt) fun r h => ?_
        obtain ⟨k1, bs', t10, t14, k2, ⟨k3, k4, more, k5⟩, k6⟩ := h
        refine ⟨k1, ?_⟩
        rw [k2]
        have e2 : sSet 12 (op2 dAdd (.var 12) (.val (fC (.int 1)))) (Q es dd s2 (some (false, .lst (ps.map pD))) s4 s5 s6 s7 (some (false, k)) s9 t10 (some (true, .lst (bs'.map iT))) (some (false, .int spot)) s13 t14 s15) = .ok (.nx, Q es dd s2 (some (false, .lst (ps.map pD))) s4 s5 s6 s7 (some (false, k)) s9 t10 (some (true, .lst (bs'.map iT))) (some (false, .int (spot + 1 : Nat))) s13 t14 s15) := by
          have : ((spot + 1 : Nat) : Int) = (spot : Int) + 1 := by omega
          rw [this]
          generalize (spot : Int) = sp
          simp
        refine O.wp_of e2 ?_
        have hle : bs.length ≤ bs'.length := by rw [k5, List.length_append]; omega
        refine close_loop es dd s2 s4 s5 s6 s7 s9 s13 s15 hf ps hps n ks (by simpa using hk) (spot + 1) bs' false (some (false, k)) t10 t14 (by omega) (by omega) k3 k4 (fun i b hi hg p hp => ?_) (fun z => hne (List.eq_nil_of_length_eq_zero (by rw [z, List.length_nil] at hle; omega)))
        have hib : bs[i]? = some b := by
          have : i < bs.length := by omega
          rw [k5, List.getElem?_append_left this] at hg
          exact hg
        by_cases hi2 : i = spot
        · subst hi2
          have := k6 p hp
          rw [List.getElem?_eq_getElem hlt] at hib
          cases hib
          exact this
        · have := hc i b (by omega) hib p hp
          rw [k5]
          exact List.mem_append_left _ this
/-! the tables -/
def tabOf (ps : List (List (Option Int))) (bs : List (List Int)) : List (List Int) := ps.map fun p => bs.map fun b => ((bs.idxOf (setF p b) : Nat) : Int)
theorem told_loop (es : List D) (dd : Int) (s2 s3 s4 s5 s6 s8 s12 s13 s14 s15 : Option (Bool × D)) (s7 : Option D) {f : Nat} (hf : f ≤ 3) (bs : List (List Int)) (hn : bs.Nodup) (hb : ∀ b ∈ bs, BdOk f b) : ∀ (ps acc : List (List (Option Int))) (fr : Bool) (s10 : Option (Bool × D)), (∀ p ∈ ps, PtOk f p) → Clo ps bs → acc.length + ps.length ≤ 1000 →
    (forL (gN 10) b_law_settings_5 (ps.map pD) (Q es dd s2 s3 s4 s5 s6 (fz s7) s8 (some (true, .lst ((tabOf acc bs).map iT))) s10 (some (fr, .lst (bs.map iT))) s12 s13 s14 s15)).wp fun r => r.1 = .nx ∧ ∃ (fr : Bool) (s10 : Option (Bool × D)), r.2 = Q es dd s2 s3 s4 s5 s6 (fz s7) s8 (some (true, .lst ((tabOf (acc ++ ps) bs).map iT))) s10 (some (fr, .lst (bs.map iT))) s12 s13 s14 s15
  | [], acc, fr, s10, _, _, _ => ⟨rfl, fr, s10, by rw [List.append_nil]⟩
  | p :: ps, acc, fr, s10, hps, hc, hl => by
    have hl27 := boards_len hf hn hb
    have hp := hps p List.mem_cons_self
    have hfi : fIt (fVar 11) (Q es dd s2 s3 s4 s5 s6 (fz s7) s8 (some (true, .lst ((tabOf acc bs).map iT))) (some (false, pD p)) (some (fr, .lst (bs.map iT))) s12 s13 s14 s15) = .ok (bs.map iT, Q es dd s2 s3 s4 s5 s6 (fz s7) s8 (some (true, .lst ((tabOf acc bs).map iT))) (some (false, pD p)) (some (false, .lst (bs.map iT))) s12 s13 s14 s15) := by simp
    have hmp := fLc_map (vs := [7]) (t := gN 7) (f := fIndex (.var 11) (.val (fCall d_law_set [(.var 10), (.var 7)]))) (fun d => match d with | .tup ds => (match intsD ds with | some b => .int (bs.idxOf (setF p b) : Nat) | none => .non) | _ => .non) hfi (by cases s7 <;> rfl) (by rw [List.length_map]; omega) fun d hd => by
      obtain ⟨b, hbm, rfl⟩ := List.mem_map.mp hd
      have hset := set_ok p b (by rw [(hb b hbm).1]; omega)
      have hidx := v_index (setF p b) bs (hc b hbm p List.mem_cons_self)
      have himm := imm_iT (setF p b)
      refine ⟨_, false, Q es dd s2 s3 s4 s5 s6 (some (false, iT b)) s8 (some (true, .lst ((tabOf acc bs).map iT))) (some (false, pD p)) (some (false, .lst (bs.map iT))) s12 s13 s14 s15, rfl, ?_, rfl⟩
      have hg : (match iT b with | .tup ds => (match intsD ds with | some b => D.int (bs.idxOf (setF p b) : Nat) | none => .non) | _ => .non) = D.int (bs.idxOf (setF p b) : Nat) := by
        show (match intsD (b.map .int) with | some b => D.int (bs.idxOf (setF p b) : Nat) | none => .non) = _
        rw [intsD_of]
      show _ = O.ok (false, _, _)
      rw [hg]
      generalize ((bs.idxOf (setF p b) : Nat) : Int) = ii at hidx
      simp [wipeE, hset, hidx]
    have hmap : (bs.map iT).map (fun d => match d with | .tup ds => (match intsD ds with | some b => D.int (bs.idxOf (setF p b) : Nat) | none => .non) | _ => .non) = (bs.map fun b => ((bs.idxOf (setF p b) : Nat) : Int)).map .int := by
      rw [List.map_map, List.map_map]
      refine List.map_congr_left fun b _ => ?_
      show (match intsD (b.map .int) with | some b => D.int (bs.idxOf (setF p b) : Nat) | none => .non) = _
      rw [intsD_of]
      rfl
    rw [hmap] at hmp
    have happ : mApp ((tabOf acc bs).map iT) [iT (bs.map fun b => ((bs.idxOf (setF p b) : Nat) : Int))] = some (.non, (tabOf (acc ++ [p]) bs).map iT) := by
      unfold mApp
      dsimp only
      have : (tabOf acc bs).length = acc.length := by unfold tabOf; simp
      rw [List.length_cons] at hl
      rw [if_pos (by rw [List.length_map, this]; omega)]
      unfold tabOf
      simp
    have hb1 : b_law_settings_5 (Q es dd s2 s3 s4 s5 s6 (fz s7) s8 (some (true, .lst ((tabOf acc bs).map iT))) (some (false, pD p)) (some (fr, .lst (bs.map iT))) s12 s13 s14 s15) = .ok (.nx, Q es dd s2 s3 s4 s5 s6 (fz s7) s8 (some (true, .lst ((tabOf (acc ++ [p]) bs).map iT))) (some (false, pD p)) (some (false, .lst (bs.map iT))) s12 s13 s14 s15) := by
      have ei : opN dTuple [(.val (fLc [7] (fIt (fVar 11)) (gN 7) (tAll []) (fIndex (.var 11) (.val (fCall d_law_set [(.var 10), (.var 7)])))))] (Q es dd s2 s3 s4 s5 s6 (fz s7) s8 (some (true, .lst ((tabOf acc bs).map iT))) (some (false, pD p)) (some (fr, .lst (bs.map iT))) s12 s13 s14 s15) = .ok (false, iT (bs.map fun b => ((bs.idxOf (setF p b) : Nat) : Int)), Q es dd s2 s3 s4 s5 s6 (fz s7) s8 (some (true, .lst ((tabOf acc bs).map iT))) (some (false, pD p)) (some (false, .lst (bs.map iT))) s12 s13 s14 s15) := by
        rw [r_opN, r_evs1, r_pv, hmp]
        rfl
      unfold b_law_settings_5
      rw [r_exp, r_mut]
      simp only [List.getElem?_cons_succ, List.getElem?_cons_zero, r_evA1, ei, O.bind_ok, r_evA0, happ]
      rfl
    rw [List.map_cons]
    unfold forL
    rw [r_gN]
    refine O.wp_bind (O.wp_of hb1 ?_)
    have ih := told_loop es dd s2 s3 s4 s5 s6 s8 s12 s13 s14 s15 s7 hf bs hn hb ps (acc ++ [p]) false (some (false, pD p)) (fun z hz => hps z (List.mem_cons_of_mem _ hz)) (fun b hbm z hz => hc b hbm z (List.mem_cons_of_mem _ hz)) (by rw [List.length_append, List.length_singleton]; rw [List.length_cons] at hl; omega)
    rw [List.append_assoc] at ih
    exact ih
end H
namespace H
set_option autoImplicit false
open PySem L2 U
/-- what is known of a system that settings make -/
def SetSys (ps : List (List (Option Int))) (bs : List (List Int)) (f : Nat) : Prop := f ≤ 3 ∧ (∀ p ∈ ps, PtOk f p) ∧ bs.Nodup ∧ (∀ b ∈ bs, BdOk f b) ∧ Clo ps bs ∧ bs ≠ []
theorem SetSys.sys {ps : List (List (Option Int))} {bs : List (List Int)} {f : Nat} (h : SetSys ps bs f) (hp : ps.length ≤ 1000) : SysOk bs.length (tabOf ps bs) := by
  obtain ⟨hf, hps, hn, hb, hc, hne⟩ := h
  have h27 := boards_len hf hn hb
  have h0 : 0 < bs.length := List.length_pos_iff.mpr hne
  refine ⟨by omega, by omega, by unfold tabOf; simpa using hp, fun r hr => ?_, fun r hr z hz => ?_⟩
  · obtain ⟨p, _, rfl⟩ := List.mem_map.mp hr
    simp
  · obtain ⟨p, hpm, rfl⟩ := List.mem_map.mp hr
    obtain ⟨b, hbm, rfl⟩ := List.mem_map.mp hz
    have := List.idxOf_lt_length_iff.mpr (hc b hbm p hpm)
    omega
theorem found_loop (es : List D) (dd : Int) (s2 s3 s4 s5 s8 s9 s10 s11 s12 s13 s14 s15 : Option (Bool × D)) {f : Nat} (hf : f ≤ 3) : ∀ (l acc : List (List Int)) (s7 : Option D), acc.Nodup → (∀ b ∈ acc, BdOk f b) → (∀ b ∈ l, BdOk f b) →
    (forL (gN 7) (sIf (tOp2 dNotIn (.var 7) (.var 6)) (sExp (fMut mApp 6 [(fVar 7)])) sNil) (l.map iT) (Q es dd s2 s3 s4 s5 (some (true, .lst (acc.map iT))) (fz s7) s8 s9 s10 s11 s12 s13 s14 s15)).wp fun r => r.1 = .nx ∧ ∃ (acc' : List (List Int)) (s7 : Option D), r.2 = Q es dd s2 s3 s4 s5 (some (true, .lst (acc'.map iT))) (fz s7) s8 s9 s10 s11 s12 s13 s14 s15 ∧ acc'.Nodup ∧ (∀ b ∈ acc', BdOk f b) ∧ (acc ≠ [] ∨ l ≠ [] → acc' ≠ [])
  | [], acc, s7, hn, hb, _ => ⟨rfl, acc, s7, rfl, hn, hb, fun h => h.elim id fun z => absurd rfl z⟩
  | b :: l, acc, s7, hn, hb, hl => by
    have h27 := boards_len hf hn hb
    have hnot := v_notInR b acc
    rw [List.map_cons]
    unfold forL
    rw [r_gN]
    refine O.wp_bind ?_
    show (sIf _ _ _ (Q es dd s2 s3 s4 s5 (some (true, .lst (acc.map iT))) (some (false, iT b)) s8 s9 s10 s11 s12 s13 s14 s15)).wp _
    by_cases hm : b ∈ acc
    · have hb1 : sIf (tOp2 dNotIn (.var 7) (.var 6)) (sExp (fMut mApp 6 [(fVar 7)])) sNil (Q es dd s2 s3 s4 s5 (some (true, .lst (acc.map iT))) (some (false, iT b)) s8 s9 s10 s11 s12 s13 s14 s15) = .ok (.nx, Q es dd s2 s3 s4 s5 (some (true, .lst (acc.map iT))) (some (false, iT b)) s8 s9 s10 s11 s12 s13 s14 s15) := by simp [hnot, hm]
      refine O.wp_of hb1 (O.wp_mono (found_loop es dd s2 s3 s4 s5 s8 s9 s10 s11 s12 s13 s14 s15 hf l acc (some (iT b)) hn hb fun z hz => hl z (List.mem_cons_of_mem _ hz)) fun r h => ?_)
      obtain ⟨k1, acc', s7', k2, k3, k4, k5⟩ := h
      exact ⟨k1, acc', s7', k2, k3, k4, fun _ => k5 (.inl fun z => by rw [z] at hm; exact List.not_mem_nil hm)⟩
    · have happ : mApp (acc.map iT) [iT b] = some (.non, (acc ++ [b]).map iT) := by
        unfold mApp
        dsimp only
        rw [if_pos (by rw [List.length_map]; omega), List.map_append]
        rfl
      have hb1 : sIf (tOp2 dNotIn (.var 7) (.var 6)) (sExp (fMut mApp 6 [(fVar 7)])) sNil (Q es dd s2 s3 s4 s5 (some (true, .lst (acc.map iT))) (some (false, iT b)) s8 s9 s10 s11 s12 s13 s14 s15) = .ok (.nx, Q es dd s2 s3 s4 s5 (some (true, .lst ((acc ++ [b]).map iT))) (some (false, iT b)) s8 s9 s10 s11 s12 s13 s14 s15) := by simp [hnot, hm, happ]
      have hn2 : (acc ++ [b]).Nodup := by
        rw [List.nodup_append]
        refine ⟨hn, List.nodup_cons.mpr ⟨List.not_mem_nil, List.nodup_nil⟩, fun a ha x hx e => ?_⟩
        rw [List.mem_singleton.mp hx] at e
        exact hm (by rw [← e]; exact ha)
      refine O.wp_of hb1 (O.wp_mono (found_loop es dd s2 s3 s4 s5 s8 s9 s10 s11 s12 s13 s14 s15 hf l (acc ++ [b]) (some (iT b)) hn2 (fun z hz => (List.mem_append.mp hz).elim (hb z) fun q => by rw [List.mem_singleton.mp q]; exact hl b List.mem_cons_self) fun z hz => hl z (List.mem_cons_of_mem _ hz)) fun r h => ?_)
      obtain ⟨k1, acc', s7', k2, k3, k4, k5⟩ := h
      exact ⟨k1, acc', s7', k2, k3, k4, fun _ => k5 (.inl (by simp))⟩
/-- from the boards that are met on -/
theorem tail_ok (es : List D) (dd : Int) (s2 s4 s10 s14 s15 s9 s11 s12 s13 : Option (Bool × D)) (s7 s8 : Option D) (fr : Bool) {f : Nat} (hf : f ≤ 3) (ps : List (List (Option Int))) (hps : ∀ p ∈ ps, PtOk f p) (hpl : ps.length ≤ 1000) (begun : List (List Int)) (hbg : ∀ b ∈ begun, BdOk f b) (hbe : begun ≠ []) (fr5 : Bool) :
    (b_law_settings_8 (Q es dd s2 (some (fr, .lst (ps.map pD))) s4 (some (fr5, .lst (begun.map iT))) (some (true, .lst [])) (fz s7) (fz s8) s9 s10 s11 s12 s13 s14 s15)).wp fun r => ∃ bs ρ, SetSys ps bs f ∧ r = (.rt false (sysD bs.length (tabOf ps bs)), ρ) ∧ ρ[0]? = some (some (true, .lst es)) := by
  unfold b_law_settings_8
  have hit : fIt (fVar 5) (Q es dd s2 (some (fr, .lst (ps.map pD))) s4 (some (fr5, .lst (begun.map iT))) (some (true, .lst [])) (fz s7) (fz s8) s9 s10 s11 s12 s13 s14 s15) = .ok (begun.map iT, Q es dd s2 (some (fr, .lst (ps.map pD))) s4 (some (false, .lst (begun.map iT))) (some (true, .lst [])) (fz s7) (fz s8) s9 s10 s11 s12 s13 s14 s15) := by simp
  refine seq_wp ?_
  rw [r_for, hit, O.bind_ok]
  refine O.wp_mono (found_loop es dd s2 (some (fr, .lst (ps.map pD))) s4 (some (false, .lst (begun.map iT))) (fz s8) s9 s10 s11 s12 s13 s14 s15 hf begun [] s7 List.nodup_nil (fun b hb => (List.not_mem_nil hb).elim) hbg) fun r h => ?_
  obtain ⟨k1, bs, s7', k2, hn, hb, hne⟩ := h
  have hne := hne (.inr hbe)
  refine ⟨k1, ?_⟩
  rw [k2]
  refine seq_nx (ρ' := Q es dd s2 (some (fr, .lst (ps.map pD))) s4 (some (false, .lst (begun.map iT))) none (fz s7') (fz s8) s9 s10 (some (true, .lst (bs.map iT))) (some (false, .int 0)) s13 s14 s15) (by simp) ?_
  unfold b_law_settings_7
  refine seq_wp ?_
  have hr : fRg rg1 [(.val (fC (.int 60)))] (Q es dd s2 (some (fr, .lst (ps.map pD))) s4 (some (false, .lst (begun.map iT))) none (fz s7') (fz s8) s9 s10 (some (true, .lst (bs.map iT))) (some (false, .int 0)) s13 s14 s15) = .ok ((ups 60).map .int, Q es dd s2 (some (fr, .lst (ps.map pD))) s4 (some (false, .lst (begun.map iT))) none (fz s7') (fz s8) s9 s10 (some (true, .lst (bs.map iT))) (some (false, .int 0)) s13 s14 s15) := by
    have h3 := rg1_ok (by decide : (0:Int) ≤ 60) (by decide)
    simp [h3]
  rw [r_for, hr, O.bind_ok]
  refine O.wp_mono (close_loop es dd s2 s4 (some (false, .lst (begun.map iT))) none (fz s7') s9 s13 s15 hf ps hps 60 ((ups 60).map .int) (by rw [List.length_map, ups_len]) 0 bs fr (fz s8) s10 s14 (by omega) (Nat.zero_le _) hn hb (fun i b hi => by omega) hne) fun r h => ?_
  obtain ⟨k1, bs', fr', t8, t10, t12, t14, k2, k3, k4, k5, k6⟩ := h
  refine ⟨k1, ?_⟩
  rw [k2]
  refine seq_set (fr := true) (d := .lst []) (ρ' := Q es dd s2 (some (fr', .lst (ps.map pD))) s4 (some (false, .lst (begun.map iT))) none (fz s7') t8 s9 t10 (some (true, .lst (bs'.map iT))) t12 s13 t14 s15) (by simp) ?_
  unfold b_law_settings_6
  refine seq_wp ?_
  have hit2 : fIt (fVar 3) (Q es dd s2 (some (fr', .lst (ps.map pD))) s4 (some (false, .lst (begun.map iT))) none (fz s7') t8 (some (true, .lst [])) t10 (some (true, .lst (bs'.map iT))) t12 s13 t14 s15) = .ok (ps.map pD, Q es dd s2 (some (false, .lst (ps.map pD))) s4 (some (false, .lst (begun.map iT))) none (fz s7') t8 (some (true, .lst [])) t10 (some (true, .lst (bs'.map iT))) t12 s13 t14 s15) := by simp
  show (sFor _ _ _ (Q es dd s2 (some (fr', .lst (ps.map pD))) s4 (some (false, .lst (begun.map iT))) none (fz s7') t8 (some (true, .lst [])) t10 (some (true, .lst (bs'.map iT))) t12 s13 t14 s15)).wp _
  rw [r_for, hit2, O.bind_ok]
  have htl := told_loop es dd s2 (some (false, .lst (ps.map pD))) s4 (some (false, .lst (begun.map iT))) none t8 t12 s13 t14 s15 s7' hf bs' k3 k4 ps [] true t10 hps k5 (by simpa using hpl)
  rw [List.nil_append] at htl
  refine O.wp_mono htl fun r h => ?_
  obtain ⟨m1, fr2, u10, m2⟩ := h
  refine ⟨m1, ?_⟩
  rw [m2]
  refine O.wp_of (a := (.rt false (sysD bs'.length (tabOf ps bs')), Q es dd s2 (some (false, .lst (ps.map pD))) s4 (some (false, .lst (begun.map iT))) none (fz s7') t8 (some (true, .lst ((tabOf ps bs').map iT))) u10 (some (fr2, .lst (bs'.map iT))) t12 s13 t14 s15)) ?_ ⟨bs', _, ⟨hf, hps, k3, k4, k5, k6⟩, rfl, rfl⟩
  simp [sysD]
theorem parts_of : ∀ {l : List D}, (∀ x ∈ l, ∃ o : Option Int, x = oD o ∧ ∀ i, o = some i → 0 ≤ i ∧ i < 3) → ∃ p : List (Option Int), l = p.map oD ∧ ∀ x ∈ p, ∀ i, x = some i → 0 ≤ i ∧ i < 3
  | [], _ => ⟨[], rfl, fun _ h => (List.not_mem_nil h).elim⟩
  | x :: l, h => by
    obtain ⟨v, e, h1⟩ := h x List.mem_cons_self
    obtain ⟨r, e2, h3⟩ := parts_of (l := l) fun y hy => h y (List.mem_cons_of_mem _ hy)
    refine ⟨v :: r, by rw [e, e2]; rfl, fun z hz => ?_⟩
    rcases List.mem_cons.mp hz with q | q
    · rw [q]; exact h1
    · exact h3 z q
theorem bds_of {f : Nat} : ∀ {l : List D}, (∀ x ∈ l, ∃ b : List Int, x = iT b ∧ BdOk f b) → ∃ bs : List (List Int), l = bs.map iT ∧ ∀ b ∈ bs, BdOk f b
  | [], _ => ⟨[], rfl, fun _ h => (List.not_mem_nil h).elim⟩
  | x :: l, h => by
    obtain ⟨v, e, h1⟩ := h x List.mem_cons_self
    obtain ⟨r, e2, h3⟩ := bds_of (l := l) fun y hy => h y (List.mem_cons_of_mem _ hy)
    refine ⟨v :: r, by rw [e, e2]; rfl, fun z hz => ?_⟩
    rcases List.mem_cons.mp hz with q | q
    · rw [q]; exact h1
    · exact h3 z q
theorem imm_oD (p : List (Option Int)) : D.immL (p.map oD) = true := immL_mem.mpr fun d hd => by
  obtain ⟨o, _, rfl⟩ := List.mem_map.mp hd
  cases o <;> rfl
theorem imm_pD (p : List (Option Int)) : (pD p).imm = true := imm_oD p
/-- one part is drawn -/
theorem part_ok (dd : Int) (s4 s5 s6 s7 s8 s9 s10 s11 s12 s13 s14 : Option (Bool × D)) (s15 : Option D) (fr : Bool) (sz : List Int) (hsz : ∀ z ∈ sz, 2 ≤ z ∧ z < 4) (hl : sz.length ≤ 3) (es : List D) (hb : BxI es) (ps : List (List (Option Int))) (hps : ps.length ≤ 1000) :
    ∃ (es' : List D) (p : List (Option Int)), b_law_settings_1 (Q es dd (some (fr, .lst (sz.map .int))) (some (true, .lst (ps.map pD))) s4 s5 s6 s7 s8 s9 s10 s11 s12 s13 s14 (fz s15)) = .ok (.nx, Q es' dd (some (false, .lst (sz.map .int))) (some (true, .lst ((ps ++ [p]).map pD))) s4 s5 s6 s7 s8 s9 s10 s11 s12 s13 s14 (fz s15)) ∧ BxI es' ∧ PtOk sz.length p := by
  have hfi : fIt (fVar 2) (Q es dd (some (fr, .lst (sz.map .int))) (some (true, .lst (ps.map pD))) s4 s5 s6 s7 s8 s9 s10 s11 s12 s13 s14 (fz s15)) = .ok (sz.map .int, Q es dd (some (false, .lst (sz.map .int))) (some (true, .lst (ps.map pD))) s4 s5 s6 s7 s8 s9 s10 s11 s12 s13 s14 (fz s15)) := by simp
  obtain ⟨l, es', e1, e2, e3, e4⟩ := fLc_box (vs := [15]) (t := gN 15) (f := fCallIO d_law_pick 0 [(.val (fLst [(fC .non), (fCallIO d_law_take 0 [(.var 15)]), (fCallIO d_law_take 0 [(.var 15)])]))]) (ib := 0) (fun x => ∃ o : Option Int, x = oD o ∧ ∀ i, o = some i → 0 ≤ i ∧ i < 3) (by decide) hfi (by cases s15 <;> rfl) (by rw [List.length_map]; omega) rfl hb fun d hd es1 hb1 => by
    obtain ⟨z, hz, rfl⟩ := List.mem_map.mp hd
    have hz' := hsz z hz
    obtain ⟨v1, es2, t1, v10, v11, hb2, hi2⟩ := take_ok hb1.1 (many := z) (by omega) (by omega)
    obtain ⟨v2, es3, t2, v20, v21, hb3, hi3⟩ := take_ok hb2 (many := z) (by omega) (by omega)
    obtain ⟨v, es4, t3, hv, hb4, hi4⟩ := pickL_ok (xs := [.non, .int v1, .int v2]) hb3 (by simp) (by show 3 < 2 ^ 62; decide)
    have hvv : ∃ o : Option Int, v = oD o ∧ ∀ i, o = some i → 0 ≤ i ∧ i < 3 := by
      simp at hv
      rcases hv with h | h | h
      · exact ⟨none, h, fun i e => by cases e⟩
      · exact ⟨some v1, h, fun i e => by cases e; omega⟩
      · exact ⟨some v2, h, fun i e => by cases e; omega⟩
    have hvi : v.imm = true := by
      obtain ⟨o, e, _⟩ := hvv
      rw [e]; cases o <;> rfl
    refine ⟨_, false, v, Q es4 dd (some (false, .lst (sz.map .int))) (some (true, .lst (ps.map pD))) s4 s5 s6 s7 s8 s9 s10 s11 s12 s13 s14 (some (false, .int z)), es4, rfl, ?_, hvv, ⟨hb4, hi4⟩, rfl⟩
    simp [wipeE, q_take, q_pick, t1, t2, t3, hi2, hi3, hi4, hvi]
  obtain ⟨p, rfl, hp⟩ := parts_of e3
  refine ⟨es', p, ?_, e4, by simpa using e2, hp⟩
  have happ : mApp (ps.map pD) [pD p] = some (.non, (ps ++ [p]).map pD) := by
    unfold mApp
    dsimp only
    rw [if_pos (by rw [List.length_map]; omega), List.map_append]
    rfl
  have ei : opN dTuple [(.val (fLc [15] (fIt (fVar 2)) (gN 15) (tAll []) (fCallIO d_law_pick 0 [(.val (fLst [(fC .non), (fCallIO d_law_take 0 [(.var 15)]), (fCallIO d_law_take 0 [(.var 15)])]))])))] (Q es dd (some (fr, .lst (sz.map .int))) (some (true, .lst (ps.map pD))) s4 s5 s6 s7 s8 s9 s10 s11 s12 s13 s14 (fz s15)) = .ok (false, pD p, Q es' dd (some (false, .lst (sz.map .int))) (some (true, .lst (ps.map pD))) s4 s5 s6 s7 s8 s9 s10 s11 s12 s13 s14 (fz s15)) := by
    rw [r_opN, r_evs1, r_pv, e1]
    rfl
  unfold b_law_settings_1
  rw [r_exp, r_mut]
  simp only [List.getElem?_cons_succ, List.getElem?_cons_zero, r_evA1, ei, O.bind_ok, r_evA0, happ]
  rfl
theorem parts_loop (dd : Int) (s5 s6 s7 s8 s9 s10 s11 s12 s13 s14 : Option (Bool × D)) (s15 : Option D) (sz : List Int) (hsz : ∀ z ∈ sz, 2 ≤ z ∧ z < 4) (hl : sz.length ≤ 3) : ∀ (ks : List D) (es : List D) (fr : Bool) (s4 : Option (Bool × D)) (ps : List (List (Option Int))), BxI es → (∀ p ∈ ps, PtOk sz.length p) → ps.length + ks.length ≤ 1000 →
    (forL (gN 4) b_law_settings_1 ks (Q es dd (some (fr, .lst (sz.map .int))) (some (true, .lst (ps.map pD))) s4 s5 s6 s7 s8 s9 s10 s11 s12 s13 s14 (fz s15))).wp fun r => r.1 = .nx ∧ ∃ (es' : List D) (fr : Bool) (s4 : Option (Bool × D)) (ps' : List (List (Option Int))), r.2 = Q es' dd (some (fr, .lst (sz.map .int))) (some (true, .lst (ps'.map pD))) s4 s5 s6 s7 s8 s9 s10 s11 s12 s13 s14 (fz s15) ∧ BxI es' ∧ (∀ p ∈ ps', PtOk sz.length p) ∧ ps'.length = ps.length + ks.length
  | [], es, fr, s4, ps, hb, hp, _ => ⟨rfl, es, fr, s4, ps, rfl, hb, hp, rfl⟩
  | k :: ks, es, fr, s4, ps, hb, hp, h => by
    rw [List.length_cons] at h
    obtain ⟨es', p, e1, e2, e3⟩ := part_ok dd (some (false, k)) s5 s6 s7 s8 s9 s10 s11 s12 s13 s14 s15 fr sz hsz hl es hb ps (by omega)
    unfold forL
    rw [r_gN]
    refine O.wp_bind (O.wp_of e1 ?_)
    refine O.wp_mono (parts_loop dd s5 s6 s7 s8 s9 s10 s11 s12 s13 s14 s15 sz hsz hl ks es' false (some (false, k)) (ps ++ [p]) e2 (fun z hz => (List.mem_append.mp hz).elim (hp z) fun q => by rw [List.mem_singleton.mp q]; exact e3) (by rw [List.length_append, List.length_singleton]; omega)) fun r h => ?_
    obtain ⟨k1, es'', fr', t4, ps', k2, k3, k4, k5⟩ := h
    exact ⟨k1, es'', fr', t4, ps', k2, k3, k4, by rw [k5, List.length_append, List.length_singleton, List.length_cons]; omega⟩
end H
namespace H
set_option autoImplicit false
open PySem L2 U
/-- one board is drawn -/
theorem board_ok (dd : Int) (s3 s4 s5 s6 s7 s9 s10 s11 s12 s13 s14 : Option (Bool × D)) (s8 : Option (Bool × D)) (s15 : Option D) (fr : Bool) (sz : List Int) (hsz : ∀ z ∈ sz, 2 ≤ z ∧ z < 4) (hl : sz.length ≤ 3) (es : List D) (hb : BxI es) :
    ∃ (es' : List D) (b : List Int), opN dTuple [(.val (fLc [15] (fIt (fVar 2)) (gN 15) (tAll []) (fCallIO d_law_take 0 [(.var 15)])))] (Q es dd (some (fr, .lst (sz.map .int))) s3 s4 s5 s6 s7 s8 s9 s10 s11 s12 s13 s14 (fz s15)) = .ok (false, iT b, Q es' dd (some (false, .lst (sz.map .int))) s3 s4 s5 s6 s7 s8 s9 s10 s11 s12 s13 s14 (fz s15)) ∧ BxI es' ∧ BdOk sz.length b := by
  have hfi : fIt (fVar 2) (Q es dd (some (fr, .lst (sz.map .int))) s3 s4 s5 s6 s7 s8 s9 s10 s11 s12 s13 s14 (fz s15)) = .ok (sz.map .int, Q es dd (some (false, .lst (sz.map .int))) s3 s4 s5 s6 s7 s8 s9 s10 s11 s12 s13 s14 (fz s15)) := by simp
  obtain ⟨l, es', e1, e2, e3, e4⟩ := fLc_box (vs := [15]) (t := gN 15) (f := fCallIO d_law_take 0 [(.var 15)]) (ib := 0) (fun x => ∃ v : Int, x = .int v ∧ 0 ≤ v ∧ v < 3) (by decide) hfi (by cases s15 <;> rfl) (by rw [List.length_map]; omega) rfl hb fun d hd es1 hb1 => by
    obtain ⟨z, hz, rfl⟩ := List.mem_map.mp hd
    have hz' := hsz z hz
    obtain ⟨v1, es2, t1, v10, v11, hb2, hi2⟩ := take_ok hb1.1 (many := z) (by omega) (by omega)
    refine ⟨_, false, .int v1, Q es2 dd (some (false, .lst (sz.map .int))) s3 s4 s5 s6 s7 s8 s9 s10 s11 s12 s13 s14 (some (false, .int z)), es2, rfl, ?_, ⟨v1, rfl, v10, by omega⟩, ⟨hb2, hi2⟩, rfl⟩
    simp [wipeE, q_take, t1, hi2]
  obtain ⟨b, rfl, hbb⟩ := ints_of e3
  refine ⟨es', b, ?_, e4, by simpa using e2, hbb⟩
  rw [r_opN, r_evs1, r_pv, e1]
  rfl
theorem settings_ok {es : List D} (hb : BxI es) {dd : Int} (h0 : 0 ≤ dd) (h1 : dd ≤ 100) : ∃ (es' : List D) (ps : List (List (Option Int))) (bs : List (List Int)) (f : Nat), d_law_settings [.lst es, .int dd] = .ok (false, sysD bs.length (tabOf ps bs), [.lst es']) ∧ BxI es' ∧ SetSys ps bs f ∧ (ps.length : Int) = dd := by
  -- sizes
  obtain ⟨v, es1, e1, hv, hb1, hi1⟩ := pickL_ok (xs := [.int 1, .int 2, .int 3, .int 3]) hb.1 (by simp) (by decide)
  obtain ⟨m, rfl, m0, m1⟩ : ∃ m : Int, v = .int m ∧ 1 ≤ m ∧ m ≤ 3 := by
    simp at hv
    rcases hv with h | h | h <;> exact ⟨_, h, by decide, by decide⟩
  have hfi : fRg rg1 [(.val (fCallIO d_law_pick 0 [(.val (fLst [(fC (.int 1)), (fC (.int 2)), (fC (.int 3)), (fC (.int 3))]))]))] (Q es dd none none none none none none none none none none none none none none) = .ok ((ups m.toNat).map .int, Q es1 dd none none none none none none none none none none none none none none) := by
    simp [q_pick, e1, hi1, rg1_ok (by omega : 0 ≤ m) (by omega)]
  obtain ⟨l, es2, e2, hl2, hp2, hb2⟩ := fLc_box (vs := [13]) (t := gN 13) (f := op2 dAdd (.val (fC (.int 2))) (.val (fCallIO d_law_take 0 [(.val (fC (.int 2)))]))) (ib := 0) (fun x => ∃ v : Int, x = .int v ∧ 2 ≤ v ∧ v < 4) (by decide) hfi rfl (by rw [List.length_map, ups_len]; omega) rfl ⟨hb1, hi1⟩ fun d hd es' hb' => by
    obtain ⟨z, hz, rfl⟩ := List.mem_map.mp hd
    obtain ⟨v1, es3, t1, v10, v11, hb3, hi3⟩ := take_ok hb'.1 (many := 2) (by decide) (by decide)
    refine ⟨_, false, .int (2 + v1), Q es3 dd none none none none none none none none none none none (some (false, .int z)) none none, es3, rfl, ?_, ⟨2 + v1, rfl, by omega, by omega⟩, ⟨hb3, hi3⟩, rfl⟩
    simp [wipeE, q_take, t1, hi3]
  obtain ⟨sz, rfl, hsz⟩ : ∃ sz : List Int, l = sz.map .int ∧ ∀ z ∈ sz, 2 ≤ z ∧ z < 4 := by
    have key : ∀ {l : List D}, (∀ x ∈ l, ∃ v : Int, x = .int v ∧ 2 ≤ v ∧ v < 4) → ∃ sz : List Int, l = sz.map .int ∧ ∀ z ∈ sz, 2 ≤ z ∧ z < 4 := by
      intro l
      induction l with
      | nil => exact fun _ => ⟨[], rfl, fun _ h => (List.not_mem_nil h).elim⟩
      | cons x l ih =>
        intro h
        obtain ⟨v, e, k⟩ := h x List.mem_cons_self
        obtain ⟨r, e2, k2⟩ := ih fun y hy => h y (List.mem_cons_of_mem _ hy)
        refine ⟨v :: r, by rw [e, e2]; rfl, fun z hz => ?_⟩
        rcases List.mem_cons.mp hz with q | q
        · rw [q]; exact k
        · exact k2 z q
    exact key hp2
  have hszl : sz.length ≤ 3 := by simp at hl2; omega
  -- the run as a whole
  have main : (b_law_settings_11 (Q es dd none none none none none none none none none none none none none none)).wp fun r => ∃ ps bs es' ρ, SetSys ps bs sz.length ∧ (ps.length : Int) = dd ∧ BxI es' ∧ r = (.rt false (sysD bs.length (tabOf ps bs)), ρ) ∧ ρ[0]? = some (some (true, .lst es')) := by
    unfold b_law_settings_11
    refine seq_set (fr := true) (d := .lst (sz.map .int)) (ρ' := Q es2 dd none none none none none none none none none none none none none none) e2 ?_
    unfold b_law_settings_10
    refine seq_set (fr := true) (d := .lst []) (ρ' := Q es2 dd (some (true, .lst (sz.map .int))) none none none none none none none none none none none none none) (by simp) ?_
    refine seq_wp ?_
    have hr : fRg rg1 [(.var 1)] (Q es2 dd (some (true, .lst (sz.map .int))) (some (true, .lst [])) none none none none none none none none none none none none) = .ok ((ups dd.toNat).map .int, Q es2 dd (some (true, .lst (sz.map .int))) (some (true, .lst [])) none none none none none none none none none none none none) := by
      simp [rg1_ok h0 (by omega)]
    show (sFor _ _ _ (Q es2 dd (some (true, .lst (sz.map .int))) (some (true, .lst [])) none none none none none none none none none none none none)).wp _
    rw [r_for, hr, O.bind_ok]
    refine O.wp_mono (parts_loop dd none none none none none none none none none none none sz hsz hszl ((ups dd.toNat).map .int) es2 true none [] hb2 (fun p hp => (List.not_mem_nil hp).elim) (by simp; omega)) fun r h => ?_
    obtain ⟨k1, es3, fr3, t4, ps, k2, hb3, hps, hpl⟩ := h
    have hpl' : (ps.length : Int) = dd := by simp at hpl; omega
    refine ⟨k1, ?_⟩
    rw [k2]
    unfold b_law_settings_9
    -- begun
    obtain ⟨c9, es4, t1, c0, c1, hb4, hi4⟩ := take_ok hb3.1 (many := 9) (by decide) (by decide)
    have hfi2 : fRg rg1 [(.val (op2 dAdd (.val (fC (.int 1))) (.val (fCallIO d_law_take 0 [(.val (fC (.int 9)))]))))] (Q es3 dd (some (fr3, .lst (sz.map .int))) (some (true, .lst (ps.map pD))) t4 none none none none none none none none none none none) =
        .ok ((ups (1 + c9).toNat).map .int, Q es4 dd (some (fr3, .lst (sz.map .int))) (some (true, .lst (ps.map pD))) t4 none none none none none none none none none none none) := by
      simp [q_take, t1, hi4, rg1_ok (by omega : 0 ≤ 1 + c9) (by omega)]
    have hcomp : (fLc [8] (fRg rg1 [(.val (op2 dAdd (.val (fC (.int 1))) (.val (fCallIO d_law_take 0 [(.val (fC (.int 9)))]))))]) (gN 8) (tAll []) (opN dTuple [(.val (fLc [15] (fIt (fVar 2)) (gN 15) (tAll []) (fCallIO d_law_take 0 [(.var 15)])))]) (Q es3 dd (some (fr3, .lst (sz.map .int))) (some (true, .lst (ps.map pD))) t4 none none none none none none none none none none none)).wp fun w =>
        ∃ (es' : List D) (fr' : Bool) (bg : List (List Int)), w = (true, .lst (bg.map iT), Q es' dd (some (fr', .lst (sz.map .int))) (some (true, .lst (ps.map pD))) t4 none none none none none none none none none none none) ∧ BxI es' ∧ (∀ b ∈ bg, BdOk sz.length b) ∧ bg ≠ [] := by
      refine fLc_wp (fun acc l ρ => ∃ (es' : List D) (fr' : Bool) (s8 : Option (Bool × D)) (bg : List (List Int)), ρ = Q es' dd (some (fr', .lst (sz.map .int))) (some (true, .lst (ps.map pD))) t4 none none none s8 none none none none none none none ∧ BxI es' ∧ acc = bg.map iT ∧ (∀ b ∈ bg, BdOk sz.length b) ∧ bg.length + l.length = (1 + c9).toNat) (O.wp_of hfi2 ⟨by cases fr3 <;> rfl, by rw [List.length_map, ups_len]; omega, ⟨es4, fr3, none, [], rfl, ⟨hb4, hi4⟩, rfl, fun b hb => (List.not_mem_nil hb).elim, by simp⟩, fun l ρ2 h => ?_⟩) fun acc d ds ρ h => ?_
      · obtain ⟨es', fr', s8, bg, rfl, k1, k2, k3, k4⟩ := h
        refine ⟨es', fr', bg, by rw [k2]; rfl, k1, k3, fun z => by rw [z] at k4; simp at k4; omega⟩
      · obtain ⟨es', fr', s8, bg, rfl, k1, k2, k3, k4⟩ := h
        obtain ⟨es5, b, q1, q2, q3⟩ := board_ok dd (some (true, .lst (ps.map pD))) t4 none none none none none none none none none (some (false, d)) none fr' sz hsz hszl es' k1
        refine ⟨_, rfl, ?_⟩
        show (O.ok (true, _)).wp _
        rw [O.wp_ok, if_pos rfl]
        refine O.wp_of q1 ⟨es5, false, some (false, d), bg ++ [b], rfl, q2, by rw [k2]; simp, fun z hz => (List.mem_append.mp hz).elim (k3 z) fun q => by rw [List.mem_singleton.mp q]; exact q3, by rw [List.length_append, List.length_singleton]; rw [List.length_cons] at k4; omega⟩
    obtain ⟨w, ew, es5, fr5, bg, rfl, hb5, hbg, hbe⟩ := O.wp_ex hcomp
    refine seq_set (fr := true) (d := .lst (bg.map iT)) (ρ' := Q es5 dd (some (fr5, .lst (sz.map .int))) (some (true, .lst (ps.map pD))) t4 none none none none none none none none none none none) ew ?_
    refine seq_set (fr := true) (d := .lst []) (ρ' := Q es5 dd (some (fr5, .lst (sz.map .int))) (some (true, .lst (ps.map pD))) t4 (some (true, .lst (bg.map iT))) none none none none none none none none none none) (by simp) ?_
    refine O.wp_mono (tail_ok es5 dd (some (fr5, .lst (sz.map .int))) t4 none none none none none none none none none true hszl ps hps (by omega) bg hbg hbe true) fun r h => ?_
    obtain ⟨bs, ρ, z1, z2, z3⟩ := h
    exact ⟨ps, bs, es5, ρ, z1, hpl', hb5, z2, z3⟩
  obtain ⟨r, er, ps, bs, es', ρ, z1, z2, z3, z4, z5⟩ := O.wp_ex main
  refine ⟨es', ps, bs, sz.length, ?_, z3, z1, z2⟩
  unfold d_law_settings b_law_settings
  rw [run2]
  simp only [List.replicate]
  have er' : b_law_settings_11 [some (true, .lst es), some (false, .int dd), none, none, none, none, none, none, none, none, none, none, none, none, none, none] = _ := er
  show finF true (b_law_settings_11 [some (true, .lst es), some (false, .int dd), none, none, none, none, none, none, none, none, none, none, none, none, none, none]) = _
  rw [er', z4]
  simp [finF, outs, z5]
end H
namespace H
set_option autoImplicit false
open PySem L2 U
/-! ### orders -/
theorem lev_mem (m : Nat) : ∀ (t : Nat) (r : List Int), r.length = t → r.Nodup → (∀ z ∈ r, 0 ≤ z ∧ z < m) → r ∈ lev m t
  | 0, r, h, _, _ => by rw [List.eq_nil_of_length_eq_zero h]; exact List.mem_singleton.mpr rfl
  | t + 1, r, h, hn, hz => by
    rcases List.eq_nil_or_concat r with rfl | ⟨r', x, rfl⟩
    · simp at h
    · rw [List.concat_eq_append] at *
      have hn' := List.nodup_append.mp hn
      have h1 := lev_mem m t r' (by rw [List.length_append, List.length_singleton] at h; omega) hn'.1 fun z hz' => hz z (List.mem_append_left _ hz')
      refine List.mem_flatMap.mpr ⟨r', h1, List.mem_map.mpr ⟨x, List.mem_filter.mpr ⟨?_, ?_⟩, rfl⟩⟩
      · have hx := hz x (List.mem_append_right _ (List.mem_singleton.mpr rfl))
        unfold ups
        exact List.mem_map.mpr ⟨x.toNat, List.mem_range.mpr (by omega), by omega⟩
      · have : x ∉ r' := fun q => hn'.2.2 x q x (List.mem_singleton.mpr rfl) rfl
        simp [this]
theorem rowsF_lev (m : Nat) : ∀ t, ∀ r ∈ lev m t, r ∈ rowsF m t
  | 0, r, h => h
  | t + 1, r, h => List.mem_append_right _ h
def orders (n : Nat) : List (List Int) := (rowsF n n).filter fun r => decide (r.length = n)
theorem orders_mem {n : Nat} {r : List Int} : r ∈ orders n ↔ r.length = n ∧ r.Nodup ∧ ∀ z ∈ r, 0 ≤ z ∧ z < n := by
  unfold orders
  rw [List.mem_filter]
  constructor
  · rintro ⟨h1, h2⟩
    obtain ⟨_, k2, k3⟩ := rowsF_mem n n r h1
    exact ⟨of_decide_eq_true h2, k2, k3⟩
  · rintro ⟨h1, h2, h3⟩
    exact ⟨rowsF_lev n n r (lev_mem n n r h1 h2 h3), decide_eq_true h1⟩
theorem orders_few {n : Nat} (h : n ≤ 4) : (orders n).length ≤ 24 := by
  have : n = 0 ∨ n = 1 ∨ n = 2 ∨ n = 3 ∨ n = 4 := by omega
  rcases this with e | e | e | e | e <;> subst e <;> decide +kernel
theorem orders_pos (n : Nat) : 0 < (orders n).length := by
  have : ups n ∈ orders n := orders_mem.mpr ⟨ups_len n, by
    unfold ups
    rw [List.Nodup, List.pairwise_map]
    exact List.nodup_range.imp fun h z => h (by omega), fun z hz => ups_mem hz⟩
  exact List.length_pos_of_mem this
theorem orders_ok {n : Nat} (h : n ≤ 4) : d_law_orders [.int n] = .ok (true, .lst ((orders n).map iT), []) := by
  have hr := rows_ok n n (by omega) (by omega)
  have hL := rowsF_len (m := n) (by omega) n (by omega)
  have hfi : fIt (fCall d_law_rows [(.var 0), (.var 0)]) [some (false, .int n), none] = .ok ((rowsF n n).map iT, [some (false, .int n), none]) := by
    have himm := imm_rowsL (rowsF n n)
    generalize (n : Int) = nn at hr
    simp [hr, himm]
  have hc := fLc_filter (vs := [1]) (t := gN 1) (cs := tOp2 dEq (.val (opN dLen [(.var 1)])) (.var 0)) (f := fVar 1) (fun d => match d with | .tup ds => decide (ds.length = n) | _ => false) id hfi rfl (by rw [List.length_map]; omega) fun d hd => by
    obtain ⟨r, hrm, rfl⟩ := List.mem_map.mp hd
    refine ⟨_, [some (false, .int n), some (false, iT r)], rfl, ?_, fun _ => rfl, fun _ => ⟨false, _, rfl, rfl⟩⟩
    have he : dEq (.int (r.map D.int).length) (.int n) = some (decide ((r.map D.int).length = n)) := by
      rw [v_eq]
      congr 1
      by_cases q : (r.map D.int).length = n
      · rw [q]; simp
      · have q' : ¬ (((r.map D.int).length : Nat) : Int) = (n : Int) := fun z => q (by omega)
        rw [decide_eq_false q]
        exact beq_eq_false_iff_ne.mpr q'
    show tOp2 dEq _ _ [some (false, .int n), some (false, .tup (r.map .int))] = O.ok (decide ((r.map D.int).length = n), _)
    generalize (n : Int) = nn at he
    generalize hdl : dLen [.tup (r.map .int)] = dl
    have : dl = some (false, .int (r.map D.int).length) := hdl.symm
    subst this
    simp only [r_tOp2, r_pv, r_opN, r_evs1, r_pr, List.getElem?_cons_succ, List.getElem?_cons_zero, O.bind_ok, r_evs0, r_gets1, r_get0, r_slot, r_gets0, hdl, r_get1, he]
    rfl
  have hm : (((rowsF n n).map iT).filter (fun d => match d with | .tup ds => decide (ds.length = n) | _ => false)).map id = (orders n).map iT := by
    rw [List.map_id, List.filter_map]
    congr 1
    apply List.filter_congr
    intro r _
    show decide ((r.map D.int).length = n) = decide (r.length = n)
    rw [List.length_map]
  rw [hm] at hc
  unfold d_law_orders b_law_orders
  rw [run1]
  simp only [List.replicate]
  rw [r_ret, hc]
  rfl
/-! ### a lot moved to the front -/
def frontF (o lot : List Int) : List Int := lot ++ o.filter fun z => !decide (z ∈ lot)
theorem front_mem {n : Nat} {o lot : List Int} (ho : o ∈ orders n) (hl : lot.Nodup) (hz : ∀ z ∈ lot, 0 ≤ z ∧ z < n) : frontF o lot ∈ orders n := by
  obtain ⟨h1, h2, h3⟩ := orders_mem.mp ho
  have hnd : (frontF o lot).Nodup := by
    unfold frontF
    rw [List.nodup_append]
    refine ⟨hl, h2.filter _, fun a ha b hb e => ?_⟩
    have := (List.mem_filter.mp hb).2
    rw [← e] at this
    simp [ha] at this
  have hin : ∀ z ∈ frontF o lot, 0 ≤ z ∧ z < n := fun z hz' => by
    rcases List.mem_append.mp hz' with q | q
    · exact hz z q
    · exact h3 z (List.mem_filter.mp q).1
  have hall : ∀ z : Int, 0 ≤ z ∧ z < n → z ∈ o := fun z hzz => by
    -- o has all n names
    have hsub : ∀ x ∈ o, x ∈ ups n := fun x hx => by
      have := h3 x hx
      unfold ups
      exact List.mem_map.mpr ⟨x.toNat, List.mem_range.mpr (by omega), by omega⟩
    have hu : (ups n).Nodup := by
      unfold ups
      rw [List.Nodup, List.pairwise_map]
      exact List.nodup_range.imp fun h z => h (by omega)
    have hzu : z ∈ ups n := by
      unfold ups
      exact List.mem_map.mpr ⟨z.toNat, List.mem_range.mpr (by omega), by omega⟩
    refine Decidable.byContradiction fun hno => ?_
    have hc : (z :: o).Nodup := List.nodup_cons.mpr ⟨hno, h2⟩
    have := len_le_of_sub hc (l' := ups n) fun x hx => by
      rcases List.mem_cons.mp hx with q | q
      · rw [q]; exact hzu
      · exact hsub x q
    rw [ups_len, List.length_cons] at this
    omega
  have hperm : (frontF o lot).Perm o := U.perm_mem hnd h2 fun a => ⟨fun ha => hall a (hin a ha), fun ha => by
    unfold frontF
    by_cases q : a ∈ lot
    · exact List.mem_append_left _ q
    · exact List.mem_append_right _ (List.mem_filter.mpr ⟨ha, by simp [q]⟩)⟩
  exact orders_mem.mpr ⟨by rw [hperm.length_eq, h1], hnd, hin⟩
theorem front_ok (o lot : List Int) (h1 : o.length ≤ 1000) (h2 : lot.length ≤ 1000) : d_law_front [iT o, .lst (lot.map .int)] = .ok (false, iT (frontF o lot), []) := by
  have hfi : fIt (fVar 0) [some (false, iT o), some (false, .lst (lot.map .int)), none] = .ok (o.map .int, [some (false, iT o), some (false, .lst (lot.map .int)), none]) := by
    simp
    simp [iT]
  have hc := fLc_filter (vs := [2]) (t := gN 2) (cs := tOp2 dNotIn (.var 2) (.var 1)) (f := fVar 2) (fun d => match d with | .int z => !decide (z ∈ lot) | _ => false) id hfi rfl (by rw [List.length_map]; omega) fun d hd => by
    obtain ⟨z, hz, rfl⟩ := List.mem_map.mp hd
    have := v_notInL z lot
    refine ⟨_, [some (false, iT o), some (false, .lst (lot.map .int)), some (false, .int z)], rfl, by simp [wipeE, this], fun _ => rfl, fun _ => ⟨false, _, rfl, rfl⟩⟩
  have hm : ((o.map D.int).filter (fun d => match d with | .int z => !decide (z ∈ lot) | _ => false)).map id = (o.filter fun z => !decide (z ∈ lot)).map .int := by
    rw [List.map_id, List.filter_map]
    rfl
  rw [hm] at hc
  have hf : (o.filter fun z => !decide (z ∈ lot)).length ≤ o.length := List.length_filter_le _ _
  have hadd : dAdd (iT lot) (iT (o.filter fun z => !decide (z ∈ lot))) = some (false, iT (frontF o lot)) := v_addT _ _ (by omega)
  have e1 : opN dTuple [(.var 1)] [some (false, iT o), some (false, .lst (lot.map .int)), none] = .ok (false, iT lot, [some (false, iT o), some (false, .lst (lot.map .int)), none]) := by
    simp [iT]
  have e2 : opN dTuple [(.val (fLc [2] (fIt (fVar 0)) (gN 2) (tOp2 dNotIn (.var 2) (.var 1)) (fVar 2)))] [some (false, iT o), some (false, .lst (lot.map .int)), none] = .ok (false, iT (o.filter fun z => !decide (z ∈ lot)), [some (false, iT o), some (false, .lst (lot.map .int)), none]) := by
    rw [r_opN, r_evs1, r_pv, hc]
    rfl
  unfold d_law_front b_law_front
  rw [run2]
  simp only [List.replicate]
  rw [r_ret, r_op2, r_pv, e1, O.bind_ok, O.bind_ok, r_pv, e2]
  simp only [O.bind_ok, r_get1, r_get2, hadd]
  rfl
end H
namespace H
set_option autoImplicit false
open PySem L2 U
/-! ### _law_fronts -/
def LotOk (n : Nat) (lot : List Int) : Prop := lot.Nodup ∧ lot.length ≤ 2 ∧ ∀ z ∈ lot, 0 ≤ z ∧ z < n
def fTab (n : Nat) (lots : List (List Int)) : List (List Int) := lots.map fun lot => (orders n).map fun o => (((orders n).idxOf (frontF o lot) : Nat) : Int)
theorem mixed_ups {es : List D} (hb : BxI es) {n : Nat} (hn : n ≤ 1000) : ∃ (ys : List Int) (es' : List D), lawMixed [.lst es, .lst ((ups n).map .int)] = .ok (true, .lst (ys.map .int), [.lst es']) ∧ ys.Perm (ups n) ∧ BxI es' := by
  obtain ⟨l, es', e, hp, hb'⟩ := mixed_ok (b := .lst es) (x := .lst ((ups n).map .int)) (xs := (ups n).map .int) hb.1 ⟨es, rfl, hb.2⟩ (.inl rfl) (by rw [List.length_map, ups_len]; exact hn)
  have hint : ∀ y ∈ l, ∃ v : Int, y = .int v ∧ 0 ≤ v ∧ v < n := fun y hy => by
    obtain ⟨v, hv, rfl⟩ := List.mem_map.mp (hp.mem_iff.mp hy)
    have := ups_mem hv
    exact ⟨v, rfl, by omega, by omega⟩
  obtain ⟨o, rfl, _⟩ := U.ints_of hint
  refine ⟨o, es', e, ?_, hb'⟩
  have := hp.map (fun d => match d with | .int i => i | _ => 0)
  rw [List.map_map, List.map_map] at this
  have hid : ((fun d => match d with | .int i => i | _ => (0 : Int)) ∘ D.int) = id := rfl
  rw [hid, List.map_id, List.map_id] at this
  exact this
theorem ups_nodup (n : Nat) : (ups n).Nodup := by
  unfold ups
  rw [List.Nodup, List.pairwise_map]
  exact List.nodup_range.imp fun h z => h (by omega)
abbrev bFr : SF := (sSeq (sSet 6 (fSl (.val (fCallIO d_law_mixed 0 [(.val (op1 dLstRg (.var 1)))])) none (some (fCallIO d_law_pick 0 [(.val (fLst [(fC (.int 1)), (fC (.int 1)), (fC (.int 1)), (fC (.int 2))]))]))))
    (sExp (fMut mApp 5 [(opN dTuple [(.val (fLc [7] (fIt (fVar 4)) (gN 7) (tAll []) (fIndex (.var 4) (.val (fCall d_law_front [(.var 7), (.var 6)])))))])])))
theorem fr_turn {n : Nat} (hn : n ≤ 4) (es : List D) (hb : BxI es) (s2 s3 s6 : Option (Bool × D)) (fr : Bool) (lots : List (List Int)) (hll : lots.length ≤ 1000) (s7 : Option D) :
    ∃ (es' : List D) (lot : List Int) (t6 : Option (Bool × D)), bFr [some (true, .lst es), some (false, .int n), s2, s3, some (fr, .lst ((orders n).map iT)), some (true, .lst ((fTab n lots).map iT)), s6, fz s7] =
      .ok (.nx, [some (true, .lst es'), some (false, .int n), s2, s3, some (false, .lst ((orders n).map iT)), some (true, .lst ((fTab n (lots ++ [lot])).map iT)), t6, fz s7]) ∧ BxI es' ∧ LotOk n lot := by
  obtain ⟨ys, es1, e1, hp, hb1⟩ := mixed_ups hb (n := n) (by omega)
  obtain ⟨v, es2, e2, hv, hb2, hi2⟩ := pickL_ok (xs := [.int 1, .int 1, .int 1, .int 2]) hb1.1 (by simp) (by decide)
  obtain ⟨k, rfl, hk⟩ : ∃ k : Nat, v = .int k ∧ k ≤ 2 := by
    simp at hv
    rcases hv with h | h
    · exact ⟨1, h, by decide⟩
    · exact ⟨2, h, by decide⟩
  have hyn : ys.Nodup := hp.nodup_iff.mpr (ups_nodup n)
  have hlot : LotOk n (ys.take k) := ⟨hyn.sublist (List.take_sublist k ys), by rw [List.length_take]; omega, fun z hz => ups_mem (hp.mem_iff.mp (List.mem_of_mem_take hz))⟩
  refine ⟨es2, ys.take k, some (true, .lst ((ys.take k).map .int)), ?_, ⟨hb2, hi2⟩, hlot⟩
  have hrg := lstRg_ok (j := (n : Int)) (by omega) (by omega)
  rw [Int.toNat_natCast] at hrg
  have hsl : dSl none (some (k : Int)) (.lst (ys.map .int)) = some (true, .lst ((ys.take k).map .int)) := by rw [sl_toL, List.map_take]
  have hi1 := hb1.2
  have hA : sSet 6 (fSl (.val (fCallIO d_law_mixed 0 [(.val (op1 dLstRg (.var 1)))])) none (some (fCallIO d_law_pick 0 [(.val (fLst [(fC (.int 1)), (fC (.int 1)), (fC (.int 1)), (fC (.int 2))]))]))) [some (true, .lst es), some (false, .int n), s2, s3, some (fr, .lst ((orders n).map iT)), some (true, .lst ((fTab n lots).map iT)), s6, fz s7] =
      .ok (.nx, [some (true, .lst es2), some (false, .int n), s2, s3, some (fr, .lst ((orders n).map iT)), some (true, .lst ((fTab n lots).map iT)), some (true, .lst ((ys.take k).map .int)), fz s7]) := by
    generalize (n : Int) = nn at hrg
    generalize (k : Int) = kk at hsl e2
    simp [fSlP, hrg, q_mixed, q_pick, e1, hi1, e2, hi2, hsl, -List.map_take]
  have hof := orders_few hn
  have hfi : fIt (fVar 4) [some (true, .lst es2), some (false, .int n), s2, s3, some (fr, .lst ((orders n).map iT)), some (true, .lst ((fTab n lots).map iT)), some (true, .lst ((ys.take k).map .int)), fz s7] = .ok ((orders n).map iT, [some (true, .lst es2), some (false, .int n), s2, s3, some (false, .lst ((orders n).map iT)), some (true, .lst ((fTab n lots).map iT)), some (true, .lst ((ys.take k).map .int)), fz s7]) := by simp
  generalize ys.take k = lot at hA hfi hlot
  have hmp := fLc_map (vs := [7]) (t := gN 7) (f := fIndex (.var 4) (.val (fCall d_law_front [(.var 7), (.var 6)]))) (fun d => match d with | .tup ds => (match intsD ds with | some o => .int ((orders n).idxOf (frontF o lot) : Nat) | none => .non) | _ => .non) hfi (by cases s7 <;> rfl) (by rw [List.length_map]; omega) fun d hd => by
    obtain ⟨o, hom, rfl⟩ := List.mem_map.mp hd
    have hol := (orders_mem.mp hom).1
    have hfront := front_ok o lot (by omega) (by have := hlot.2.1; omega)
    have hidx := v_index (frontF o lot) (orders n) (front_mem hom hlot.1 hlot.2.2)
    have himm := imm_iT (frontF o lot)
    refine ⟨_, false, [some (true, .lst es2), some (false, .int n), s2, s3, some (false, .lst ((orders n).map iT)), some (true, .lst ((fTab n lots).map iT)), some (true, .lst (lot.map .int)), some (false, iT o)], rfl, ?_, rfl⟩
    have hg : (match iT o with | .tup ds => (match intsD ds with | some o => D.int ((orders n).idxOf (frontF o lot) : Nat) | none => .non) | _ => .non) = D.int ((orders n).idxOf (frontF o lot) : Nat) := by
      show (match intsD (o.map .int) with | some o => D.int ((orders n).idxOf (frontF o lot) : Nat) | none => .non) = _
      rw [intsD_of]
    show _ = O.ok (false, _, _)
    rw [hg]
    generalize (((orders n).idxOf (frontF o lot) : Nat) : Int) = ii at hidx
    simp [wipeE, hfront, hidx]
  have hmap : ((orders n).map iT).map (fun d => match d with | .tup ds => (match intsD ds with | some o => D.int ((orders n).idxOf (frontF o lot) : Nat) | none => .non) | _ => .non) = ((orders n).map fun o => (((orders n).idxOf (frontF o lot) : Nat) : Int)).map .int := by
    rw [List.map_map, List.map_map]
    refine List.map_congr_left fun o _ => ?_
    show (match intsD (o.map .int) with | some o => D.int ((orders n).idxOf (frontF o lot) : Nat) | none => .non) = _
    rw [intsD_of]
    rfl
  rw [hmap] at hmp
  have happ : mApp ((fTab n lots).map iT) [iT ((orders n).map fun o => (((orders n).idxOf (frontF o lot) : Nat) : Int))] = some (.non, (fTab n (lots ++ [lot])).map iT) := by
    unfold mApp
    dsimp only
    have : (fTab n lots).length = lots.length := by unfold fTab; simp
    rw [if_pos (by rw [List.length_map, this]; omega)]
    unfold fTab
    simp
  have ei : opN dTuple [(.val (fLc [7] (fIt (fVar 4)) (gN 7) (tAll []) (fIndex (.var 4) (.val (fCall d_law_front [(.var 7), (.var 6)])))))] [some (true, .lst es2), some (false, .int n), s2, s3, some (fr, .lst ((orders n).map iT)), some (true, .lst ((fTab n lots).map iT)), some (true, .lst (lot.map .int)), fz s7] =
      .ok (false, iT ((orders n).map fun o => (((orders n).idxOf (frontF o lot) : Nat) : Int)), [some (true, .lst es2), some (false, .int n), s2, s3, some (false, .lst ((orders n).map iT)), some (true, .lst ((fTab n lots).map iT)), some (true, .lst (lot.map .int)), fz s7]) := by
    rw [r_opN, r_evs1, r_pv, hmp]
    rfl
  unfold bFr
  rw [r_seq, hA, O.bind_ok]
  show sExp _ _ = _
  rw [r_exp, r_mut]
  simp only [List.getElem?_cons_succ, List.getElem?_cons_zero, r_evA1, ei, O.bind_ok, r_evA0, happ]
  rfl
theorem fr_loop {n : Nat} (hn : n ≤ 4) (s2 : Option (Bool × D)) : ∀ (ks : List D) (es : List D) (s3 s6 : Option (Bool × D)) (fr : Bool) (lots : List (List Int)) (s7 : Option D), BxI es → (∀ l ∈ lots, LotOk n l) → lots.length + ks.length ≤ 1000 →
    (forL (gN 3) bFr ks [some (true, .lst es), some (false, .int n), s2, s3, some (fr, .lst ((orders n).map iT)), some (true, .lst ((fTab n lots).map iT)), s6, fz s7]).wp fun r => r.1 = .nx ∧ ∃ (es' : List D) (s3 s6 : Option (Bool × D)) (fr : Bool) (lots' : List (List Int)), r.2 = [some (true, .lst es'), some (false, .int n), s2, s3, some (fr, .lst ((orders n).map iT)), some (true, .lst ((fTab n lots').map iT)), s6, fz s7] ∧ BxI es' ∧ (∀ l ∈ lots', LotOk n l) ∧ lots'.length = lots.length + ks.length
  | [], es, s3, s6, fr, lots, s7, hb, hl, _ => ⟨rfl, es, s3, s6, fr, lots, rfl, hb, hl, rfl⟩
  | k :: ks, es, s3, s6, fr, lots, s7, hb, hl, h => by
    rw [List.length_cons] at h
    obtain ⟨es', lot, s6', e1, e2, e3⟩ := fr_turn hn es hb s2 (some (false, k)) s6 fr lots (by omega) s7
    unfold forL
    rw [r_gN]
    refine O.wp_bind (O.wp_of e1 ?_)
    refine O.wp_mono (fr_loop hn s2 ks es' (some (false, k)) s6' false (lots ++ [lot]) s7 e2 (fun z hz => (List.mem_append.mp hz).elim (hl z) fun q => by rw [List.mem_singleton.mp q]; exact e3) (by rw [List.length_append, List.length_singleton]; omega)) fun r h => ?_
    obtain ⟨k1, es'', t3, t6, fr', lots', k2, k3, k4, k5⟩ := h
    exact ⟨k1, es'', t3, t6, fr', lots', k2, k3, k4, by rw [k5, List.length_append, List.length_singleton, List.length_cons]; omega⟩
theorem fTab_sys {n : Nat} (hn : n ≤ 4) {lots : List (List Int)} (hl : ∀ l ∈ lots, LotOk n l) (hll : lots.length ≤ 1000) : SysOk (orders n).length (fTab n lots) := by
  have h1 := orders_few hn
  have h2 := orders_pos n
  refine ⟨by omega, by omega, by unfold fTab; simpa using hll, fun r hr => ?_, fun r hr z hz => ?_⟩
  · obtain ⟨lot, _, rfl⟩ := List.mem_map.mp hr
    simp
  · obtain ⟨lot, hlm, rfl⟩ := List.mem_map.mp hr
    obtain ⟨o, hom, rfl⟩ := List.mem_map.mp hz
    have hlo := hl lot hlm
    have := List.idxOf_lt_length_iff.mpr (front_mem hom hlo.1 hlo.2.2)
    omega
theorem fronts_ok {es : List D} (hb : BxI es) {n : Nat} (hn : n ≤ 4) {dd : Int} (h0 : 0 ≤ dd) (h1 : dd ≤ 100) : ∃ (es' : List D) (lots : List (List Int)), d_law_fronts [.lst es, .int n, .int dd] = .ok (false, sysD (orders n).length (fTab n lots), [.lst es']) ∧ BxI es' ∧ (∀ l ∈ lots, LotOk n l) ∧ (lots.length : Int) = dd := by
  have ho := orders_ok hn
  have himm := imm_rowsL (orders n)
  obtain ⟨⟨fl, ρ⟩, er, k1, es', s3, s6, fr, lots, k2, k3, k4, k5⟩ := O.wp_ex (fr_loop hn (some (false, .int dd)) ((ups dd.toNat).map .int) es none none true [] none hb (fun l hl => (List.not_mem_nil hl).elim) (by simp; omega))
  cases k1
  dsimp only at k2
  subst k2
  refine ⟨es', lots, ?_, k3, k4, by simp at k5; omega⟩
  unfold d_law_fronts b_law_fronts
  rw [run3]
  simp only [List.replicate]
  have e0 : sPar [(4, (fCall d_law_orders [(.var 1)])), (5, (fLst []))] [some (true, .lst es), some (false, .int n), some (false, .int dd), none, none, none, none, none] = .ok (.nx, [some (true, .lst es), some (false, .int n), some (false, .int dd), none, some (true, .lst ((orders n).map iT)), some (true, .lst []), none, none]) := by
    generalize (n : Int) = nn at ho
    simp [ho, himm]
  have e1 : fRg rg1 [(.var 2)] [some (true, .lst es), some (false, .int n), some (false, .int dd), none, some (true, .lst ((orders n).map iT)), some (true, .lst []), none, none] = .ok ((ups dd.toNat).map .int, [some (true, .lst es), some (false, .int n), some (false, .int dd), none, some (true, .lst ((orders n).map iT)), some (true, .lst []), none, none]) := by
    generalize (n : Int) = nn
    simp [rg1_ok h0 (by omega)]
  rw [r_seq, e0, O.bind_ok]
  show finF true (sSeq (sFor (fRg rg1 [(.var 2)]) (gN 3) bFr) _ _) = _
  rw [r_seq, r_for, e1, O.bind_ok]
  have er' : forL (gN 3) bFr ((ups dd.toNat).map .int) [some (true, .lst es), some (false, .int n), some (false, .int dd), none, some (true, .lst ((orders n).map iT)), some (true, .lst []), none, none] = _ := er
  rw [er', O.bind_ok]
  show finF true (sRet _ _) = _
  generalize (n : Int) = nn
  simp [finF, outs, sysD]
end H
namespace H
set_option autoImplicit false
open PySem L2 U
/-! ### _law_few -/
def RowOk (many : Int) (r : List Int) : Prop := (r.length : Int) = many ∧ ∀ z ∈ r, 0 ≤ z ∧ z < many
abbrev bFw : SF := (sSeq (sSet 6 (fSl (.val (fCallIO d_law_mixed 0 [(.val (op1 dLstRg (.var 3)))])) none (some (op2 dAdd (.val (fC (.int 1))) (.val (fCallIO d_law_take 0 [(.var 3)]))))))
    (sExp (fMut mApp 4 [(opN dTuple [(.val (fLc [7] (fRg rg1 [(.var 3)]) (gN 7) (tAll []) (fIf (tOp2 dIn (.var 7) (.var 6)) (fVar 7) (fCallIO d_law_pick 0 [(.var 6)]))))])])))
theorem fw_turn {m : Nat} (hm0 : 1 ≤ m) (hm : m ≤ 100) (es : List D) (hb : BxI es) (s1 s2 s5 s6 : Option (Bool × D)) (rows : List (List Int)) (hll : rows.length ≤ 1000) (s7 : Option D) :
    ∃ (es' : List D) (r : List Int) (t6 : Option (Bool × D)), bFw [some (true, .lst es), s1, s2, some (false, .int m), some (true, .lst (rows.map iT)), s5, s6, fz s7] =
      .ok (.nx, [some (true, .lst es'), s1, s2, some (false, .int m), some (true, .lst ((rows ++ [r]).map iT)), s5, t6, fz s7]) ∧ BxI es' ∧ RowOk m r := by
  obtain ⟨ys, es1, e1, hp, hb1⟩ := mixed_ups hb (n := m) (by omega)
  obtain ⟨v, es2, e2, v0, v1, hb2, hi2⟩ := take_ok hb1.1 (many := m) (by omega) (by omega)
  obtain ⟨k, hk⟩ : ∃ k : Nat, 1 + v = (k : Int) := ⟨(1 + v).toNat, by omega⟩
  have hkk : 1 ≤ k ∧ k ≤ m := by omega
  have hyl : ys.length = m := by rw [hp.length_eq, ups_len]
  have hrg := lstRg_ok (j := (m : Int)) (by omega) (by omega)
  rw [Int.toNat_natCast] at hrg
  have hsl : dSl none (some (k : Int)) (.lst (ys.map .int)) = some (true, .lst ((ys.take k).map .int)) := by rw [sl_toL, List.map_take]
  have hi1 := hb1.2
  have hA : sSet 6 (fSl (.val (fCallIO d_law_mixed 0 [(.val (op1 dLstRg (.var 3)))])) none (some (op2 dAdd (.val (fC (.int 1))) (.val (fCallIO d_law_take 0 [(.var 3)]))))) [some (true, .lst es), s1, s2, some (false, .int m), some (true, .lst (rows.map iT)), s5, s6, fz s7] =
      .ok (.nx, [some (true, .lst es2), s1, s2, some (false, .int m), some (true, .lst (rows.map iT)), s5, some (true, .lst ((ys.take k).map .int)), fz s7]) := by
    rw [← hk] at hsl
    generalize (m : Int) = mm at hrg e2
    simp [fSlP, hrg, q_mixed, q_take, e1, hi1, e2, hi2, hsl, -List.map_take]
  have hpos : (ys.take k).length ≠ 0 := by rw [List.length_take]; omega
  have hin : ∀ z ∈ ys.take k, 0 ≤ z ∧ z < (m : Int) := fun z hz => ups_mem (hp.mem_iff.mp (List.mem_of_mem_take hz))
  have hkl : (ys.take k).length ≤ m := by rw [List.length_take]; omega
  generalize ys.take k = kept at hA hpos hin hkl
  have hg := rg1_ok (j := (m : Int)) (by omega) (by omega)
  rw [Int.toNat_natCast] at hg
  have hfi : fRg rg1 [(.var 3)] [some (true, .lst es2), s1, s2, some (false, .int m), some (true, .lst (rows.map iT)), s5, some (true, .lst (kept.map .int)), fz s7] = .ok ((ups m).map .int, [some (true, .lst es2), s1, s2, some (false, .int m), some (true, .lst (rows.map iT)), s5, some (true, .lst (kept.map .int)), fz s7]) := by
    generalize (m : Int) = mm at hg
    simp [hg]
  obtain ⟨l, es3, f1, f2, f3, f4⟩ := fLc_box (vs := [7]) (t := gN 7) (f := fIf (tOp2 dIn (.var 7) (.var 6)) (fVar 7) (fCallIO d_law_pick 0 [(.var 6)])) (ib := 0) (fun x => ∃ v : Int, x = .int v ∧ 0 ≤ v ∧ v < m) (by decide) hfi (by cases s7 <;> rfl) (by rw [List.length_map, ups_len]; omega) rfl ⟨hb2, hi2⟩ fun d hd es4 hb4 => by
    obtain ⟨z, hz, rfl⟩ := List.mem_map.mp hd
    have hz := ups_mem hz
    have hin1 := v_inL z kept
    by_cases hzk : z ∈ kept
    · refine ⟨_, false, .int z, [some (true, .lst es4), s1, s2, some (false, .int m), some (true, .lst (rows.map iT)), s5, some (true, .lst (kept.map .int)), some (false, .int z)], es4, rfl, ?_, ⟨z, rfl, hz⟩, hb4, rfl⟩
      simp [wipeE, hin1, hzk]
    · obtain ⟨w, es5, t1, hw, hb5, hi5⟩ := pickL_ok (xs := kept.map .int) hb4.1 (fun q => hpos (by rw [List.map_eq_nil_iff] at q; rw [q]; rfl)) (by rw [List.length_map]; omega)
      obtain ⟨u, hu, rfl⟩ := List.mem_map.mp hw
      refine ⟨_, false, .int u, [some (true, .lst es5), s1, s2, some (false, .int m), some (true, .lst (rows.map iT)), s5, some (true, .lst (kept.map .int)), some (false, .int z)], es5, rfl, ?_, ⟨u, rfl, hin u hu⟩, ⟨hb5, hi5⟩, rfl⟩
      simp [wipeE, hin1, hzk, q_pick, t1, hi5]
  obtain ⟨r, rfl, hr⟩ := U.ints_of f3
  refine ⟨es3, r, some (true, .lst (kept.map .int)), ?_, f4, ⟨by simp at f2; omega, hr⟩⟩
  have happ : mApp (rows.map iT) [iT r] = some (.non, (rows ++ [r]).map iT) := by
    unfold mApp
    dsimp only
    rw [if_pos (by rw [List.length_map]; omega), List.map_append]
    rfl
  have ei : opN dTuple [(.val (fLc [7] (fRg rg1 [(.var 3)]) (gN 7) (tAll []) (fIf (tOp2 dIn (.var 7) (.var 6)) (fVar 7) (fCallIO d_law_pick 0 [(.var 6)]))))] [some (true, .lst es2), s1, s2, some (false, .int m), some (true, .lst (rows.map iT)), s5, some (true, .lst (kept.map .int)), fz s7] =
      .ok (false, iT r, [some (true, .lst es3), s1, s2, some (false, .int m), some (true, .lst (rows.map iT)), s5, some (true, .lst (kept.map .int)), fz s7]) := by
    rw [r_opN, r_evs1, r_pv, f1]
    rfl
  unfold bFw
  rw [r_seq, hA, O.bind_ok]
  show sExp _ _ = _
  rw [r_exp, r_mut]
  simp only [List.getElem?_cons_succ, List.getElem?_cons_zero, r_evA1, ei, O.bind_ok, r_evA0, happ]
  rfl
theorem fw_loop {m : Nat} (hm0 : 1 ≤ m) (hm : m ≤ 100) (s1 s2 : Option (Bool × D)) : ∀ (ks : List D) (es : List D) (s5 s6 : Option (Bool × D)) (rows : List (List Int)) (s7 : Option D), BxI es → (∀ r ∈ rows, RowOk m r) → rows.length + ks.length ≤ 1000 →
    (forL (gN 5) bFw ks [some (true, .lst es), s1, s2, some (false, .int m), some (true, .lst (rows.map iT)), s5, s6, fz s7]).wp fun r => r.1 = .nx ∧ ∃ (es' : List D) (s5 s6 : Option (Bool × D)) (rows' : List (List Int)), r.2 = [some (true, .lst es'), s1, s2, some (false, .int m), some (true, .lst (rows'.map iT)), s5, s6, fz s7] ∧ BxI es' ∧ (∀ r ∈ rows', RowOk m r) ∧ rows'.length = rows.length + ks.length
  | [], es, s5, s6, rows, s7, hb, hl, _ => ⟨rfl, es, s5, s6, rows, rfl, hb, hl, rfl⟩
  | k :: ks, es, s5, s6, rows, s7, hb, hl, h => by
    rw [List.length_cons] at h
    obtain ⟨es', r0, s6', e1, e2, e3⟩ := fw_turn hm0 hm es hb s1 s2 (some (false, k)) s6 rows (by omega) s7
    unfold forL
    rw [r_gN]
    refine O.wp_bind (O.wp_of e1 ?_)
    refine O.wp_mono (fw_loop hm0 hm s1 s2 ks es' (some (false, k)) s6' (rows ++ [r0]) s7 e2 (fun z hz => (List.mem_append.mp hz).elim (hl z) fun q => by rw [List.mem_singleton.mp q]; exact e3) (by rw [List.length_append, List.length_singleton]; omega)) fun r h => ?_
    obtain ⟨k1, es'', t3, t6, rows', k2, k3, k4, k5⟩ := h
    exact ⟨k1, es'', t3, t6, rows', k2, k3, k4, by rw [k5, List.length_append, List.length_singleton, List.length_cons]; omega⟩
/-- what the law's systems are: of settings, of fronts, or such as the look found plain -/
inductive Drawn : Int → List (List Int) → Prop
  | set {ps : List (List (Option Int))} {bs : List (List Int)} {f : Nat} : SetSys ps bs f → Drawn bs.length (tabOf ps bs)
  | frn {n : Nat} {lots : List (List Int)} : n ≤ 4 → (∀ l ∈ lots, LotOk n l) → Drawn (orders n).length (fTab n lots)
  | pln {many : Int} {rows : List (List Int)} : SysOk many rows → plainB many rows = true → Drawn many rows
structure Drw (many : Int) (rows : List (List Int)) : Prop where
  d : Drawn many rows
  lo : 1 ≤ rows.length
  hi : rows.length ≤ 6
  sm : many ≤ 27
theorem Drw.sys {many : Int} {rows : List (List Int)} (h : Drw many rows) : SysOk many rows := by
  obtain ⟨d, lo, hi, sm⟩ := h
  cases d with
  | set s => exact s.sys (by unfold tabOf at hi; rw [List.length_map] at hi; omega)
  | frn hn hl => exact fTab_sys hn hl (by unfold fTab at hi; rw [List.length_map] at hi; omega)
  | pln S _ => exact S
theorem settings_drw {es : List D} (hb : BxI es) {dd : Int} (h0 : 1 ≤ dd) (h1 : dd ≤ 6) : ∃ (es' : List D) (many : Int) (rows : List (List Int)), d_law_settings [.lst es, .int dd] = .ok (false, sysD many rows, [.lst es']) ∧ BxI es' ∧ Drw many rows ∧ (rows.length : Int) = dd := by
  obtain ⟨es', ps, bs, f, e, k1, k2, k3⟩ := settings_ok hb (by omega : 0 ≤ dd) (by omega)
  have hl : (tabOf ps bs).length = ps.length := by unfold tabOf; simp
  have h27 := boards_len k2.1 k2.2.2.1 k2.2.2.2.1
  exact ⟨es', _, _, e, k1, ⟨.set k2, by omega, by omega, by omega⟩, by rw [hl]; exact k3⟩
abbrev bFt : SF := (sSeq (sSet 3 (op2 dAdd (.val (fC (.int 2))) (.val (fCallIO d_law_take 0 [(.val (fC (.int 4)))]))))
    (sSeq (sSet 4 (fLst []))
    (sSeq (sFor (fRg rg1 [(.var 1)]) (gN 5) bFw)
    (sIf (tOf (.val (fCall d_law_is_plain [(.val (fTup [(fVar 3), (opN dTuple [(.var 4)])]))])))
    (sRet (fTup [(fVar 3), (opN dTuple [(.var 4)])]))
    sNil))))
theorem ft_ok {dd : Int} (h0 : 1 ≤ dd) (h1 : dd ≤ 6) (es : List D) (hb : BxI es) (s2 s3 s4 s5 s6 : Option (Bool × D)) (s7 : Option D) :
    (bFt [some (true, .lst es), some (false, .int dd), s2, s3, s4, s5, s6, fz s7]).wp fun r => ∃ (es' : List D) (s3 s4 s5 s6 : Option (Bool × D)), BxI es' ∧ r.2 = [some (true, .lst es'), some (false, .int dd), s2, s3, s4, s5, s6, fz s7] ∧ (r.1 = .nx ∨ ∃ many rows, r.1 = .rt false (sysD many rows) ∧ Drw many rows ∧ (rows.length : Int) = dd) := by
  obtain ⟨v, es1, e1, v0, v1, hb1, hi1⟩ := take_ok hb.1 (many := 4) (by decide) (by decide)
  obtain ⟨m, hm⟩ : ∃ m : Nat, 2 + v = (m : Int) := ⟨(2 + v).toNat, by omega⟩
  refine seq_set (fr := false) (d := .int m) (ρ' := [some (true, .lst es1), some (false, .int dd), s2, s3, s4, s5, s6, fz s7]) (by rw [← hm]; simp [q_take, e1, hi1]) ?_
  refine seq_set (fr := true) (d := .lst []) (ρ' := [some (true, .lst es1), some (false, .int dd), s2, some (false, .int m), s4, s5, s6, fz s7]) (by simp) ?_
  refine seq_wp ?_
  have hr : fRg rg1 [(.var 1)] [some (true, .lst es1), some (false, .int dd), s2, some (false, .int m), some (true, .lst []), s5, s6, fz s7] = .ok ((ups dd.toNat).map .int, [some (true, .lst es1), some (false, .int dd), s2, some (false, .int m), some (true, .lst []), s5, s6, fz s7]) := by
    simp [rg1_ok (by omega : 0 ≤ dd) (by omega)]
  show (sFor _ _ _ [some (true, .lst es1), some (false, .int dd), s2, some (false, .int m), some (true, .lst []), s5, s6, fz s7]).wp _
  rw [r_for, hr, O.bind_ok]
  refine O.wp_mono (fw_loop (m := m) (by omega) (by omega) (some (false, .int dd)) s2 ((ups dd.toNat).map .int) es1 s5 s6 [] s7 ⟨hb1, hi1⟩ (fun r hr => (List.not_mem_nil hr).elim) (by simp; omega)) fun r h => ?_
  obtain ⟨k1, es2, t5, t6, rows, k2, k3, k4, k5⟩ := h
  refine ⟨k1, ?_⟩
  rw [k2]
  have hrl : (rows.length : Int) = dd := by simp at k5; omega
  have S : SysOk m rows := ⟨by omega, by omega, by omega, fun r hr => (k4 r hr).1, fun r hr => (k4 r hr).2⟩
  have hpl := plain_ok S (by omega) (by omega)
  have hte : tOf (.val (fCall d_law_is_plain [(.val (fTup [(fVar 3), (opN dTuple [(.var 4)])]))])) [some (true, .lst es2), some (false, .int dd), s2, some (false, .int m), some (true, .lst (rows.map iT)), t5, t6, fz s7] = .ok (plainB m rows, [some (true, .lst es2), some (false, .int dd), s2, some (false, .int m), some (true, .lst (rows.map iT)), t5, t6, fz s7]) := by
    have hpl' : d_law_is_plain [.tup [.int m, .tup (rows.map iT)]] = .ok (false, .bl (plainB m rows), []) := hpl
    generalize plainB m rows = pb at hpl'
    generalize (m : Int) = mm at hpl'
    simp [hpl']
  rw [r_sIf, hte, O.bind_ok]
  by_cases hp : plainB m rows = true
  · rw [if_pos hp]
    refine O.wp_of (a := (.rt false (sysD m rows), [some (true, .lst es2), some (false, .int dd), s2, some (false, .int m), some (true, .lst (rows.map iT)), t5, t6, fz s7])) ?_ ⟨es2, _, _, _, _, k3, rfl, .inr ⟨m, rows, rfl, ⟨.pln S hp, by omega, by omega, by omega⟩, hrl⟩⟩
    generalize (m : Int) = mm
    simp [sysD]
  · rw [if_neg hp]
    exact ⟨es2, _, _, _, _, k3, rfl, .inl rfl⟩
theorem few_loop {dd : Int} (h0 : 1 ≤ dd) (h1 : dd ≤ 6) : ∀ (ks : List D) (es : List D) (s2 s3 s4 s5 s6 : Option (Bool × D)) (s7 : Option D), BxI es →
    (forL (gN 2) bFt ks [some (true, .lst es), some (false, .int dd), s2, s3, s4, s5, s6, fz s7]).wp fun r => ∃ (es' : List D) (s2 s3 s4 s5 s6 : Option (Bool × D)), BxI es' ∧ r.2 = [some (true, .lst es'), some (false, .int dd), s2, s3, s4, s5, s6, fz s7] ∧ (r.1 = .nx ∨ ∃ many rows, r.1 = .rt false (sysD many rows) ∧ Drw many rows ∧ (rows.length : Int) = dd)
  | [], es, s2, s3, s4, s5, s6, s7, hb => ⟨es, s2, s3, s4, s5, s6, hb, rfl, .inl rfl⟩
  | k :: ks, es, s2, s3, s4, s5, s6, s7, hb => by
    unfold forL
    rw [r_gN]
    refine O.wp_bind (O.wp_mono (ft_ok h0 h1 es hb (some (false, k)) s3 s4 s5 s6 s7) fun r h => ?_)
    obtain ⟨es', t3, t4, t5, t6, k1, k2, k3⟩ := h
    obtain ⟨fl, ρ⟩ := r
    dsimp only at k2
    subst k2
    rcases k3 with k3 | ⟨many, rows, k3, k4⟩
    · cases k3
      exact few_loop h0 h1 ks es' (some (false, k)) t3 t4 t5 t6 s7 k1
    · cases k3
      exact ⟨es', _, _, _, _, _, k1, rfl, .inr ⟨many, rows, rfl, k4⟩⟩
theorem few_ok {es : List D} (hb : BxI es) {dd : Int} (h0 : 1 ≤ dd) (h1 : dd ≤ 6) : ∃ (es' : List D) (many : Int) (rows : List (List Int)), d_law_few [.lst es, .int dd] = .ok (false, sysD many rows, [.lst es']) ∧ BxI es' ∧ Drw many rows ∧ (rows.length : Int) = dd := by
  obtain ⟨⟨fl, ρ⟩, er, es1, s2, s3, s4, s5, s6, k1, k2, k3⟩ := O.wp_ex (few_loop h0 h1 ((ups 8).map .int) es none none none none none none hb)
  dsimp only at k2
  subst k2
  have e1 : fRg rg1 [(.val (fC (.int 8)))] [some (true, .lst es), some (false, .int dd), none, none, none, none, none, none] = .ok ((ups 8).map .int, [some (true, .lst es), some (false, .int dd), none, none, none, none, none, none]) := by
    have h3 := rg1_ok (by decide : (0:Int) ≤ 8) (by decide)
    simp [h3]
  have er' : forL (gN 2) bFt ((ups 8).map .int) [some (true, .lst es), some (false, .int dd), none, none, none, none, none, none] = _ := er
  have run : d_law_few [.lst es, .int dd] = finF true (sSeq (sFor (fRg rg1 [(.val (fC (.int 8)))]) (gN 2) bFt) (sRet (fCallIO d_law_settings 0 [(.var 1)])) [some (true, .lst es), some (false, .int dd), none, none, none, none, none, none]) := rfl
  rw [run, r_seq, r_for, e1, O.bind_ok, er', O.bind_ok]
  rcases k3 with k3 | ⟨many, rows, k3, k4⟩
  · cases k3
    obtain ⟨es2, many, rows, q1, q2, q3, q4⟩ := settings_drw k1 h0 h1
    refine ⟨es2, many, rows, ?_, q2, q3, q4⟩
    have himm := imm_sys many rows
    have himm2 := q2.2
    show finF true (sRet _ _) = _
    simp [q1, himm, himm2, finF, outs]
  · cases k3
    exact ⟨es1, many, rows, rfl, k1, k4⟩
end H
namespace H
set_option autoImplicit false
open PySem L2 U
/-! ### _law_glued -/
abbrev W (s0 s1 s2 s3 s4 s5 s6 s7 s8 s9 s10 s11 s12 s13 s14 s15 s16 : Option (Bool × D)) : En := [s0, s1, s2, s3, s4, s5, s6, s7, s8, s9, s10, s11, s12, s13, s14, s15, s16]
def NmOk (many : Int) (nm : List Int) : Prop := (nm.length : Int) = many ∧ ∀ z ∈ nm, 0 ≤ z ∧ z < many
def PrOk (many : Int) (prs : List (List Int)) : Prop := ∀ p ∈ prs, ∃ a b, p = [a, b] ∧ (0 ≤ a ∧ a < many) ∧ (0 ≤ b ∧ b < many)
theorem getD_mem {nm : List Int} {k : Int} (h0 : 0 ≤ k) (h : k < nm.length) : nm.getD k.toNat 0 ∈ nm := by
  have hk : k.toNat < nm.length := by omega
  have : nm.getD k.toNat 0 = nm[k.toNat] := by rw [List.getD_eq_getElem?_getD, List.getElem?_eq_getElem hk]; rfl
  rw [this]
  exact List.getElem_mem hk
theorem alike_ok {many : Int} {nm deed : List Int} (hm0 : 1 ≤ many) (hm : many ≤ 27) (hn : NmOk many nm) (hd : (deed.length : Int) = many) (here : Int) (fr : Bool) (s0 s1 s2 s3 s4 s5 s9 s10 s11 s13 s14 : Option (Bool × D)) (s15 s16 : Option D) :
    sSet 14 (fLc [15] (fRg rg1 [(.var 7)]) (gN 15) (tOp2 dEq (.val (op2 dIx (.var 8) (.var 15))) (.var 12)) (op2 dIx (.var 6) (.var 15))) (W s0 s1 s2 s3 s4 s5 (some (false, iT deed)) (some (false, .int many)) (some (fr, .lst (nm.map .int))) s9 s10 s11 (some (false, .int here)) s13 s14 (fz s15) (fz s16)) =
      .ok (.nx, W s0 s1 s2 s3 s4 s5 (some (false, iT deed)) (some (false, .int many)) (some (fr, .lst (nm.map .int))) s9 s10 s11 (some (false, .int here)) s13 (some (true, .lst ((((ups many.toNat).filter fun b => decide (nm.getD b.toNat 0 = here)).map fun b => deed.getD b.toNat 0).map .int))) (fz s15) (fz s16)) := by
  have hg := rg1_ok (j := many) (by omega) (by omega)
  have hfi : fRg rg1 [(.var 7)] (W s0 s1 s2 s3 s4 s5 (some (false, iT deed)) (some (false, .int many)) (some (fr, .lst (nm.map .int))) s9 s10 s11 (some (false, .int here)) s13 s14 (fz s15) (fz s16)) = .ok ((ups many.toNat).map .int, W s0 s1 s2 s3 s4 s5 (some (false, iT deed)) (some (false, .int many)) (some (fr, .lst (nm.map .int))) s9 s10 s11 (some (false, .int here)) s13 s14 (fz s15) (fz s16)) := by simp [hg]
  have hc := fLc_filter (vs := [15]) (t := gN 15) (cs := tOp2 dEq (.val (op2 dIx (.var 8) (.var 15))) (.var 12)) (f := op2 dIx (.var 6) (.var 15)) (fun d => match d with | .int b => decide (nm.getD b.toNat 0 = here) | _ => false) (fun d => match d with | .int b => .int (deed.getD b.toNat 0) | _ => .non) hfi (by cases s15 <;> rfl) (by rw [List.length_map, ups_len]; omega) fun d hd' => by
    obtain ⟨b, hb, rfl⟩ := List.mem_map.mp hd'
    have hb := ups_mem hb
    have i1 := v_ixIL (r := nm) hb.1 (by have := hn.1; omega)
    have i2 := v_ixI (r := deed) hb.1 (by omega)
    refine ⟨_, W s0 s1 s2 s3 s4 s5 (some (false, iT deed)) (some (false, .int many)) (some (fr, .lst (nm.map .int))) s9 s10 s11 (some (false, .int here)) s13 s14 (some (false, .int b)) (fz s16), rfl, ?_, fun _ => rfl, fun _ => ⟨false, W s0 s1 s2 s3 s4 s5 (some (false, iT deed)) (some (false, .int many)) (some (fr, .lst (nm.map .int))) s9 s10 s11 (some (false, .int here)) s13 s14 (some (false, .int b)) (fz s16), ?_, rfl⟩⟩
    · show tOp2 _ _ _ _ = O.ok (decide (nm.getD b.toNat 0 = here), _)
      generalize nm.getD b.toNat 0 = v at i1
      have : (v == here) = decide (v = here) := by by_cases h : v = here <;> simp [h]
      simp [wipeE, i1, this]
    · show op2 _ _ _ _ = O.ok (false, D.int (deed.getD b.toNat 0), _)
      generalize deed.getD b.toNat 0 = v at i2
      simp [i2]
  rw [r_set, hc]
  have e : (((ups many.toNat).map D.int).filter (fun d => match d with | .int b => decide (nm.getD b.toNat 0 = here) | _ => false)).map (fun d => match d with | .int b => D.int (deed.getD b.toNat 0) | _ => .non) = (((ups many.toNat).filter fun b => decide (nm.getD b.toNat 0 = here)).map fun b => deed.getD b.toNat 0).map .int := by
    rw [List.filter_map, List.map_map, List.map_map]
    rfl
  rw [e]
  rfl
theorem pairs_ok {many : Int} (al : List Int) (a0 : Int) (hal : al.length ≤ 1000) (prs : List (List Int)) (hpl : prs.length ≤ 2000000) (s0 s1 s3 s4 s5 s6 s7 s8 s9 s10 s11 s12 s13 s15 : Option (Bool × D)) (fr2 : Bool) (s16 : Option D) :
    b_law_glued_1 (W s0 s1 (some (fr2, .lst (prs.map iT))) s3 s4 s5 s6 s7 s8 s9 s10 s11 s12 s13 (some (true, .lst ((a0 :: al).map .int))) s15 (fz s16)) =
      .ok (.nx, W s0 s1 (some (true, .lst ((prs ++ al.map fun o => [a0, o]).map iT))) s3 s4 s5 s6 s7 s8 s9 s10 s11 s12 s13 (some (true, .lst ((a0 :: al).map .int))) s15 (fz s16)) := by
  have hsl : dSl (some (1 : Int)) none (.lst ((a0 :: al).map .int)) = some (true, .lst (al.map .int)) := by
    have := sl_frL ((a0 :: al).map .int) 1 (by simp)
    exact this
  have hfi : fIt (fSl (.var 14) (some (fC (.int 1))) none) (W s0 s1 (some (fr2, .lst (prs.map iT))) s3 s4 s5 s6 s7 s8 s9 s10 s11 s12 s13 (some (true, .lst ((a0 :: al).map .int))) s15 (fz s16)) = .ok (al.map .int, W s0 s1 (some (fr2, .lst (prs.map iT))) s3 s4 s5 s6 s7 s8 s9 s10 s11 s12 s13 (some (true, .lst ((a0 :: al).map .int))) s15 (fz s16)) := by
    generalize hL : (a0 :: al).map D.int = L at hsl
    simp [fSlP, hsl]
  have h0 : dIx (.lst ((a0 :: al).map .int)) (.int 0) = some (false, .int a0) := by rw [List.map_cons]; exact v_ixL0 _ _
  have hc := fLc_map (vs := [16]) (t := gN 16) (f := fTup [(op2 dIx (.var 14) (.val (fC (.int 0)))), (fVar 16)]) (fun d => match d with | .int o => iT [a0, o] | _ => .non) hfi (by cases s16 <;> rfl) (by rw [List.length_map]; omega) fun d hd => by
    obtain ⟨o, ho, rfl⟩ := List.mem_map.mp hd
    refine ⟨_, false, W s0 s1 (some (fr2, .lst (prs.map iT))) s3 s4 s5 s6 s7 s8 s9 s10 s11 s12 s13 (some (true, .lst ((a0 :: al).map .int))) s15 (some (false, .int o)), rfl, ?_, rfl⟩
    generalize hL : (a0 :: al).map D.int = L at h0
    simp [wipeE, h0]
    rfl
  have e : (al.map D.int).map (fun d => match d with | .int o => iT [a0, o] | _ => .non) = (al.map fun o => [a0, o]).map iT := by
    rw [List.map_map, List.map_map]; rfl
  rw [e] at hc
  have hadd : dAdd (.lst (prs.map iT)) (.lst ((al.map fun o => [a0, o]).map iT)) = some (true, .lst ((prs ++ al.map fun o => [a0, o]).map iT)) := by
    rw [v_addL _ _ (by rw [List.length_map, List.length_map, List.length_map]; omega), ← List.map_append]
  unfold b_law_glued_1
  rw [r_set, r_op2, r_pr]
  simp only [List.getElem?_cons_succ, List.getElem?_cons_zero, O.bind_ok, r_pv, hc, r_get0, r_slot, r_get1, r_get2, hadd]
  rfl
theorem deeds_loop {many : Int} {nm : List Int} (hm0 : 1 ≤ many) (hm : many ≤ 27) (hn : NmOk many nm) (here : Int) (hh : here ∈ nm) (s0 s1 s3 s4 s5 s9 s10 s11 s13 : Option (Bool × D)) (fr : Bool) (s15 s16 : Option D) : ∀ (deeds : List (List Int)) (prs : List (List Int)) (fr2 : Bool) (s6 s14 : Option (Bool × D)), (∀ r ∈ deeds, RowOk many r) → PrOk many prs → prs.length + deeds.length * 27 ≤ 2000000 →
    (forL (gN 6) b_law_glued_2 (deeds.map iT) (W s0 s1 (some (fr2, .lst (prs.map iT))) s3 s4 s5 s6 (some (false, .int many)) (some (fr, .lst (nm.map .int))) s9 s10 s11 (some (false, .int here)) s13 s14 (fz s15) (fz s16))).wp fun r => r.1 = .nx ∧ ∃ (prs' : List (List Int)) (fr2 : Bool) (s6 s14 : Option (Bool × D)), r.2 = W s0 s1 (some (fr2, .lst (prs'.map iT))) s3 s4 s5 s6 (some (false, .int many)) (some (fr, .lst (nm.map .int))) s9 s10 s11 (some (false, .int here)) s13 s14 (fz s15) (fz s16) ∧ PrOk many prs' ∧ prs'.length ≤ prs.length + deeds.length * 27
  | [], prs, fr2, s6, s14, _, hp, _ => ⟨rfl, prs, fr2, s6, s14, rfl, hp, by simp⟩
  | deed :: deeds, prs, fr2, s6, s14, hd, hp, hl => by
    have hde := hd deed List.mem_cons_self
    rw [List.length_cons, Nat.succ_mul] at hl
    have hA := alike_ok hm0 hm hn hde.1 here fr s0 s1 (some (fr2, .lst (prs.map iT))) s3 s4 s5 s9 s10 s11 s13 s14 s15 s16
    obtain ⟨a0, al, hal, hal0, hall, hlen⟩ : ∃ a0 al, (((ups many.toNat).filter fun b => decide (nm.getD b.toNat 0 = here)).map fun b => deed.getD b.toNat 0) = a0 :: al ∧ (0 ≤ a0 ∧ a0 < many) ∧ (∀ z ∈ al, 0 ≤ z ∧ z < many) ∧ al.length ≤ 27 := by
      have hall : ∀ z ∈ (((ups many.toNat).filter fun b => decide (nm.getD b.toNat 0 = here)).map fun b => deed.getD b.toNat 0), 0 ≤ z ∧ z < many := fun z hz => by
        obtain ⟨b, hb, rfl⟩ := List.mem_map.mp hz
        have hb := ups_mem (List.mem_filter.mp hb).1
        exact hde.2 _ (getD_mem hb.1 (by have := hde.1; omega))
      have hlen : (((ups many.toNat).filter fun b => decide (nm.getD b.toNat 0 = here)).map fun b => deed.getD b.toNat 0).length ≤ 27 := by
        have := List.length_filter_le (fun b => decide (nm.getD b.toNat 0 = here)) (ups many.toNat)
        rw [ups_len] at this
        rw [List.length_map]
        omega
      have hne : (((ups many.toNat).filter fun b => decide (nm.getD b.toNat 0 = here)).map fun b => deed.getD b.toNat 0) ≠ [] := by
        obtain ⟨i, hi⟩ := List.mem_iff_getElem?.mp hh
        have hil : i < nm.length := (List.getElem?_eq_some_iff.mp hi).1
        have hmem : (i : Int) ∈ (ups many.toNat).filter fun b => decide (nm.getD b.toNat 0 = here) := by
          refine List.mem_filter.mpr ⟨?_, ?_⟩
          · unfold ups
            exact List.mem_map.mpr ⟨i, List.mem_range.mpr (by have := hn.1; omega), rfl⟩
          · rw [Int.toNat_natCast, List.getD_eq_getElem?_getD, hi]
            simp
        intro z
        rw [List.map_eq_nil_iff] at z
        rw [z] at hmem
        exact List.not_mem_nil hmem
      cases hL : (((ups many.toNat).filter fun b => decide (nm.getD b.toNat 0 = here)).map fun b => deed.getD b.toNat 0) with
      | nil => exact absurd hL hne
      | cons a0 al =>
        rw [hL] at hall hlen
        exact ⟨a0, al, rfl, hall a0 List.mem_cons_self, fun z hz => hall z (List.mem_cons_of_mem _ hz), by rw [List.length_cons] at hlen; omega⟩
    rw [hal] at hA
    have hB := pairs_ok (many := many) al a0 (by omega) prs (by omega) s0 s1 s3 s4 s5 (some (false, iT deed)) (some (false, .int many)) (some (fr, .lst (nm.map .int))) s9 s10 s11 (some (false, .int here)) s13 (fz s15) fr2 s16
    have hb1 : b_law_glued_2 (W s0 s1 (some (fr2, .lst (prs.map iT))) s3 s4 s5 (some (false, iT deed)) (some (false, .int many)) (some (fr, .lst (nm.map .int))) s9 s10 s11 (some (false, .int here)) s13 s14 (fz s15) (fz s16)) = .ok (.nx, W s0 s1 (some (true, .lst ((prs ++ al.map fun o => [a0, o]).map iT))) s3 s4 s5 (some (false, iT deed)) (some (false, .int many)) (some (fr, .lst (nm.map .int))) s9 s10 s11 (some (false, .int here)) s13 (some (true, .lst ((a0 :: al).map .int))) (fz s15) (fz s16)) := by
      unfold b_law_glued_2
      rw [r_seq, hA, O.bind_ok]
      exact hB
    rw [List.map_cons]
    unfold forL
    rw [r_gN]
    refine O.wp_bind (O.wp_of hb1 ?_)
    refine O.wp_mono (deeds_loop hm0 hm hn here hh s0 s1 s3 s4 s5 s9 s10 s11 s13 fr s15 s16 deeds (prs ++ al.map fun o => [a0, o]) true (some (false, iT deed)) _ (fun r hr => hd r (List.mem_cons_of_mem _ hr)) (fun p hp' => (List.mem_append.mp hp').elim (hp p) fun q => by
      obtain ⟨o, ho, rfl⟩ := List.mem_map.mp q
      exact ⟨a0, o, rfl, hal0, hall o ho⟩) (by rw [List.length_append, List.length_map]; omega)) fun r h => ?_
    obtain ⟨k1, prs', f2, t6, t14, k2, k3, k4⟩ := h
    exact ⟨k1, prs', f2, t6, t14, k2, k3, by rw [List.length_append, List.length_map] at k4; rw [List.length_cons, Nat.succ_mul]; omega⟩
end H
namespace H
set_option autoImplicit false
open PySem L2 U
theorem merge_ok {many : Int} {nm : List Int} (hm : many ≤ 27) (hn : NmOk many nm) (here there : Int) (fr : Bool) (s0 s1 s2 s3 s4 s5 s6 s7 s10 s11 s14 s15 s16 : Option (Bool × D)) (s9 : Option D) :
    sSet 8 (fLc [9] (fIt (fVar 8)) (gN 9) (tAll []) (fIf (tOp2 dEq (.var 9) (.var 13)) (fVar 12) (fVar 9))) (W s0 s1 s2 s3 s4 s5 s6 s7 (some (fr, .lst (nm.map .int))) (fz s9) s10 s11 (some (false, .int here)) (some (false, .int there)) s14 s15 s16) =
      .ok (.nx, W s0 s1 s2 s3 s4 s5 s6 s7 (some (true, .lst ((nm.map fun o => if o = there then here else o).map .int))) (fz s9) s10 s11 (some (false, .int here)) (some (false, .int there)) s14 s15 s16) := by
  have hfi : fIt (fVar 8) (W s0 s1 s2 s3 s4 s5 s6 s7 (some (fr, .lst (nm.map .int))) (fz s9) s10 s11 (some (false, .int here)) (some (false, .int there)) s14 s15 s16) = .ok (nm.map .int, W s0 s1 s2 s3 s4 s5 s6 s7 (some (false, .lst (nm.map .int))) (fz s9) s10 s11 (some (false, .int here)) (some (false, .int there)) s14 s15 s16) := by simp
  have hc := fLc_map (vs := [9]) (t := gN 9) (f := fIf (tOp2 dEq (.var 9) (.var 13)) (fVar 12) (fVar 9)) (fun d => match d with | .int o => .int (if o = there then here else o) | _ => .non) hfi (by cases s9 <;> rfl) (by rw [List.length_map]; have := hn.1; omega) fun d hd => by
    obtain ⟨o, ho, rfl⟩ := List.mem_map.mp hd
    refine ⟨_, false, W s0 s1 s2 s3 s4 s5 s6 s7 (some (false, .lst (nm.map .int))) (some (false, .int o)) s10 s11 (some (false, .int here)) (some (false, .int there)) s14 s15 s16, rfl, ?_, rfl⟩
    show fIf _ _ _ _ = O.ok (false, D.int (if o = there then here else o), _)
    by_cases h : o = there
    · rw [if_pos h]; subst h; simp [wipeE]
    · rw [if_neg h]; simp [wipeE, h]
  rw [r_set, hc]
  have e : (nm.map D.int).map (fun d => match d with | .int o => D.int (if o = there then here else o) | _ => .non) = (nm.map fun o => if o = there then here else o).map .int := by
    rw [List.map_map, List.map_map]; rfl
  rw [e]
  rfl
theorem pair_at {many : Int} {prs : List (List Int)} (hp : PrOk many prs) {k : Nat} (h : k < prs.length) : ∃ a b, dIx (.lst (prs.map iT)) (.int k) = some (false, iT [a, b]) ∧ (0 ≤ a ∧ a < many) ∧ (0 ≤ b ∧ b < many) := by
  obtain ⟨a, b, e, ha, hb⟩ := hp prs[k] (List.getElem_mem h)
  refine ⟨a, b, ?_, ha, hb⟩
  rw [← e]
  unfold dIx; dsimp only; unfold dIxS atI ixN
  dsimp only
  rw [if_pos (by omega), List.length_map, if_pos (by omega)]
  simp [h]
theorem glue_loop {many : Int} {rows : List (List Int)} (S : SysOk many rows) (hm : many ≤ 27) (hr6 : rows.length ≤ 6) (s0 s4 s5 s10 s11 : Option (Bool × D)) (s15 s16 : Option D) : ∀ (n : Nat) (spot : Nat) (nm : List Int) (prs : List (List Int)) (fr fr2 : Bool) (s3 s6 s12 s13 s14 : Option (Bool × D)) (s9 : Option D), spot + n ≤ 1000 → NmOk many nm → PrOk many prs → prs.length ≤ 1 + spot * 162 →
    (forL (gN 3) b_law_glued_5 (((List.range' spot n).map fun i => ((i : Nat) : Int)).map .int) (W s0 (some (false, sysD many rows)) (some (fr2, .lst (prs.map iT))) s3 s4 s5 s6 (some (false, .int many)) (some (fr, .lst (nm.map .int))) (fz s9) s10 s11 s12 s13 s14 (fz s15) (fz s16))).wp fun r => r.1 = .nx ∧ ∃ (nm : List Int) (prs : List (List Int)) (fr fr2 : Bool) (s3 s6 s12 s13 s14 : Option (Bool × D)), r.2 = W s0 (some (false, sysD many rows)) (some (fr2, .lst (prs.map iT))) s3 s4 s5 s6 (some (false, .int many)) (some (fr, .lst (nm.map .int))) (fz s9) s10 s11 s12 s13 s14 (fz s15) (fz s16) ∧ NmOk many nm ∧ PrOk many prs ∧ prs.length ≤ 170000
  | 0, spot, nm, prs, fr, fr2, s3, s6, s12, s13, s14, s9, h, hn, hp, hl => ⟨rfl, nm, prs, fr, fr2, s3, s6, s12, s13, s14, rfl, hn, hp, by omega⟩
  | n + 1, spot, nm, prs, fr, fr2, s3, s6, s12, s13, s14, s9, h, hn, hp, hl => by
    rw [List.range'_succ, List.map_cons, List.map_cons]
    unfold forL
    rw [r_gN]
    refine O.wp_bind ?_
    show (b_law_glued_5 (W s0 (some (false, sysD many rows)) (some (fr2, .lst (prs.map iT))) (some (false, .int spot)) s4 s5 s6 (some (false, .int many)) (some (fr, .lst (nm.map .int))) (fz s9) s10 s11 s12 s13 s14 (fz s15) (fz s16))).wp _
    unfold b_law_glued_5
    have htest : tOp2 dGe (.var 3) (.val (opN dLen [(.var 2)])) (W s0 (some (false, sysD many rows)) (some (fr2, .lst (prs.map iT))) (some (false, .int spot)) s4 s5 s6 (some (false, .int many)) (some (fr, .lst (nm.map .int))) (fz s9) s10 s11 s12 s13 s14 (fz s15) (fz s16)) = .ok (decide (prs.length ≤ spot), W s0 (some (false, sysD many rows)) (some (fr2, .lst (prs.map iT))) (some (false, .int spot)) s4 s5 s6 (some (false, .int many)) (some (fr, .lst (nm.map .int))) (fz s9) s10 s11 s12 s13 s14 (fz s15) (fz s16)) := by
      have : decide (((prs.map iT).length : Int) ≤ (spot : Int)) = decide (prs.length ≤ spot) := by
        rw [List.length_map]
        by_cases q : prs.length ≤ spot
        · rw [decide_eq_true q, decide_eq_true (by omega)]
        · rw [decide_eq_false q, decide_eq_false (by omega)]
      rw [← this]
      generalize (spot : Int) = sp
      simp
    by_cases hq : prs.length ≤ spot
    · have e1 : sIf (tOp2 dGe (.var 3) (.val (opN dLen [(.var 2)]))) sBk sNil (W s0 (some (false, sysD many rows)) (some (fr2, .lst (prs.map iT))) (some (false, .int spot)) s4 s5 s6 (some (false, .int many)) (some (fr, .lst (nm.map .int))) (fz s9) s10 s11 s12 s13 s14 (fz s15) (fz s16)) = .ok (.bk, W s0 (some (false, sysD many rows)) (some (fr2, .lst (prs.map iT))) (some (false, .int spot)) s4 s5 s6 (some (false, .int many)) (some (fr, .lst (nm.map .int))) (fz s9) s10 s11 s12 s13 s14 (fz s15) (fz s16)) := by
        rw [r_sIf, htest, O.bind_ok, decide_eq_true hq]
        rfl
      rw [r_seq, e1, O.bind_ok]
      exact ⟨rfl, nm, prs, fr, fr2, _, _, _, _, _, rfl, hn, hp, by omega⟩
    · have e1 : sIf (tOp2 dGe (.var 3) (.val (opN dLen [(.var 2)]))) sBk sNil (W s0 (some (false, sysD many rows)) (some (fr2, .lst (prs.map iT))) (some (false, .int spot)) s4 s5 s6 (some (false, .int many)) (some (fr, .lst (nm.map .int))) (fz s9) s10 s11 s12 s13 s14 (fz s15) (fz s16)) = .ok (.nx, W s0 (some (false, sysD many rows)) (some (fr2, .lst (prs.map iT))) (some (false, .int spot)) s4 s5 s6 (some (false, .int many)) (some (fr, .lst (nm.map .int))) (fz s9) s10 s11 s12 s13 s14 (fz s15) (fz s16)) := by
        rw [r_sIf, htest, O.bind_ok, decide_eq_false hq]
        rfl
      rw [r_seq, e1, O.bind_ok]
      show (b_law_glued_4 _).wp _
      unfold b_law_glued_4
      obtain ⟨a, b, hab, ha, hb⟩ := pair_at hp (k := spot) (by omega)
      have i0 : dIx (iT [a, b]) (.int 0) = some (false, .int a) := v_ixT0 _ _
      have i1 : dIx (iT [a, b]) (.int 1) = some (false, .int b) := v_ixT1 _ _ _
      have n0 := v_ixIL (r := nm) ha.1 (by have := hn.1; omega)
      have n1 := v_ixIL (r := nm) hb.1 (by have := hn.1; omega)
      have hhm := getD_mem (nm := nm) ha.1 (by have := hn.1; omega)
      have htm := getD_mem (nm := nm) hb.1 (by have := hn.1; omega)
      generalize hhere : nm.getD a.toNat 0 = here at n0 hhm
      generalize hthere : nm.getD b.toNat 0 = there at n1 htm
      refine seq_nx (ρ' := W s0 (some (false, sysD many rows)) (some (fr2, .lst (prs.map iT))) (some (false, .int spot)) s4 s5 s6 (some (false, .int many)) (some (fr, .lst (nm.map .int))) (fz s9) s10 s11 (some (false, .int here)) (some (false, .int there)) s14 (fz s15) (fz s16)) ?_ ?_
      · generalize (spot : Int) = sp at hab
        simp [hab, i0, i1, n0, n1]
      have hte2 : tOp2 dNe (.var 12) (.var 13) (W s0 (some (false, sysD many rows)) (some (fr2, .lst (prs.map iT))) (some (false, .int spot)) s4 s5 s6 (some (false, .int many)) (some (fr, .lst (nm.map .int))) (fz s9) s10 s11 (some (false, .int here)) (some (false, .int there)) s14 (fz s15) (fz s16)) = .ok (!(here == there), W s0 (some (false, sysD many rows)) (some (fr2, .lst (prs.map iT))) (some (false, .int spot)) s4 s5 s6 (some (false, .int many)) (some (fr, .lst (nm.map .int))) (fz s9) s10 s11 (some (false, .int here)) (some (false, .int there)) s14 (fz s15) (fz s16)) := by
        generalize (spot : Int) = sp
        simp
      rw [r_sIf, hte2, O.bind_ok]
      by_cases hne : here = there
      · rw [if_neg (by simp [hne])]
        show (sNil _).wp _
        exact glue_loop S hm hr6 s0 s4 s5 s10 s11 s15 s16 n (spot + 1) nm prs fr fr2 _ _ _ _ _ s9 (by omega) hn hp (by omega)
      · rw [if_pos (by simp [hne])]
        show (b_law_glued_3 _).wp _
        unfold b_law_glued_3
        refine seq_nx (merge_ok hm hn here there fr s0 (some (false, sysD many rows)) (some (fr2, .lst (prs.map iT))) (some (false, .int spot)) s4 s5 s6 (some (false, .int many)) s10 s11 s14 (fz s15) (fz s16) s9) ?_
        have hn2 : NmOk many (nm.map fun o => if o = there then here else o) := ⟨by rw [List.length_map]; exact hn.1, fun z hz => by
          obtain ⟨o, ho, rfl⟩ := List.mem_map.mp hz
          split
          · exact hn.2 _ hhm
          · exact hn.2 _ ho⟩
        have hh2 : here ∈ nm.map fun o => if o = there then here else o := List.mem_map.mpr ⟨here, hhm, by rw [if_neg hne]⟩
        have hit : fIt (op2 dIx (.var 1) (.val (fC (.int 1)))) (W s0 (some (false, sysD many rows)) (some (fr2, .lst (prs.map iT))) (some (false, .int spot)) s4 s5 s6 (some (false, .int many)) (some (true, .lst ((nm.map fun o => if o = there then here else o).map .int))) (fz s9) s10 s11 (some (false, .int here)) (some (false, .int there)) s14 (fz s15) (fz s16)) = .ok (rows.map iT, W s0 (some (false, sysD many rows)) (some (fr2, .lst (prs.map iT))) (some (false, .int spot)) s4 s5 s6 (some (false, .int many)) (some (true, .lst ((nm.map fun o => if o = there then here else o).map .int))) (fz s9) s10 s11 (some (false, .int here)) (some (false, .int there)) s14 (fz s15) (fz s16)) := by
          generalize (spot : Int) = sp
          generalize (nm.map fun o => if o = there then here else o) = nm2
          simp
        rw [r_for, hit, O.bind_ok]
        refine O.wp_mono (deeds_loop S.lo hm hn2 here hh2 s0 (some (false, sysD many rows)) (some (false, .int spot)) s4 s5 (fz s9) s10 s11 (some (false, .int there)) true s15 s16 rows prs fr2 s6 s14 (fun r hr => ⟨S.len r hr, S.rg r hr⟩) hp (by omega)) fun r hh => ?_
        obtain ⟨fl, ρ⟩ := r
        obtain ⟨k1, prs', f2, t6, t14, k2, k3, k4⟩ := hh
        cases k1
        dsimp only at k2
        subst k2
        exact glue_loop S hm hr6 s0 s4 s5 s10 s11 s15 s16 n (spot + 1) _ prs' true f2 _ _ _ _ _ s9 (by omega) hn2 k3 (by omega)
end H
namespace H
set_option autoImplicit false
open PySem L2 U
theorem first_int (x : Int) : ∀ ys : List Int, x ∈ ys → firstD (.int x) (ys.map .int) = some (ys.idxOf x)
  | [], h => (List.not_mem_nil h).elim
  | y :: ys, h => by
    have he : eqD (.int y) (.int x) = (y == x) := by unfold eqD; rfl
    rw [List.map_cons, firstD, he]
    by_cases e : y = x
    · subst e; simp
    · have hx : x ∈ ys := (List.mem_cons.mp h).resolve_left fun z => e z.symm
      have eb : (y == x) = false := by simpa using e
      rw [eb, first_int x ys hx, List.idxOf_cons, eb]
      rfl
theorem v_indexI (x : Int) (ys : List Int) (h : x ∈ ys) : dIndex (.lst (ys.map .int)) (.int x) = some (false, .int (ys.idxOf x)) := by
  unfold dIndex
  dsimp only
  have h2 : D.good (.lst (ys.map .int)) = true := good_ints ys 59
  rw [if_pos (by rw [h2]; rfl), first_int x ys h]
  rfl
def gOne (nm oo deed : List Int) (one : Int) : Int := ((oo.idxOf (nm.getD (deed.getD (nm.idxOf one) 0).toNat 0) : Nat) : Int)
def gRow (nm oo deed : List Int) : List Int := oo.map (gOne nm oo deed)
theorem row_loop {many : Int} {nm oo deed : List Int} (hm : many ≤ 27) (hn : NmOk many nm) (hO : ∀ z, z ∈ oo ↔ z ∈ nm) (hd : RowOk many deed) (s0 s1 s2 s3 s5 s7 s10 s12 s13 s14 s15 s16 : Option (Bool × D)) (fr4 fr8 : Bool) : ∀ (os acc : List Int) (s9 : Option (Bool × D)), (∀ o ∈ os, o ∈ oo) → acc.length + os.length ≤ 1000 →
    (forL (gN 9) b_law_glued_6 (os.map .int) (W s0 s1 s2 s3 (some (fr4, .lst (oo.map .int))) s5 (some (false, iT deed)) s7 (some (fr8, .lst (nm.map .int))) s9 s10 (some (true, .lst (acc.map .int))) s12 s13 s14 s15 s16)).wp fun r => r.1 = .nx ∧ ∃ (s9 : Option (Bool × D)), r.2 = W s0 s1 s2 s3 (some (fr4, .lst (oo.map .int))) s5 (some (false, iT deed)) s7 (some (fr8, .lst (nm.map .int))) s9 s10 (some (true, .lst ((acc ++ os.map (gOne nm oo deed)).map .int))) s12 s13 s14 s15 s16
  | [], acc, s9, _, _ => ⟨rfl, s9, by simp⟩
  | o :: os, acc, s9, ho, hl => by
    rw [List.length_cons] at hl
    have hom : o ∈ nm := (hO o).mp (ho o List.mem_cons_self)
    have hil := List.idxOf_lt_length_iff.mpr hom
    have j1 := v_indexI o nm hom
    have j2 := v_ixI (r := deed) (k := ((nm.idxOf o : Nat) : Int)) (by omega) (by have := hd.1; have := hn.1; omega)
    rw [Int.toNat_natCast] at j2
    have hdm := getD_mem (nm := deed) (k := ((nm.idxOf o : Nat) : Int)) (by omega) (by have := hd.1; have := hn.1; omega)
    rw [Int.toNat_natCast] at hdm
    have hdr := hd.2 _ hdm
    have j3 := v_ixIL (r := nm) hdr.1 (by have := hn.1; omega)
    have hnm := getD_mem (nm := nm) hdr.1 (by have := hn.1; omega)
    have j4 := v_indexI _ oo ((hO _).mpr hnm)
    have e : sExp (fMut mApp 11 [(fIndex (.var 4) (.val (op2 dIx (.var 8) (.val (op2 dIx (.var 6) (.val (fIndex (.var 8) (.var 9))))))))]) (W s0 s1 s2 s3 (some (fr4, .lst (oo.map .int))) s5 (some (false, iT deed)) s7 (some (fr8, .lst (nm.map .int))) (some (false, .int o)) s10 (some (true, .lst (acc.map .int))) s12 s13 s14 s15 s16) =
        .ok (.nx, W s0 s1 s2 s3 (some (fr4, .lst (oo.map .int))) s5 (some (false, iT deed)) s7 (some (fr8, .lst (nm.map .int))) (some (false, .int o)) s10 (some (true, .lst ((acc ++ [gOne nm oo deed o]).map .int))) s12 s13 s14 s15 s16) := by
      have happ : mApp (acc.map .int) [.int (gOne nm oo deed o)] = some (.non, (acc ++ [gOne nm oo deed o]).map .int) := by
        unfold mApp
        dsimp only
        rw [if_pos (by rw [List.length_map]; omega), List.map_append]
        rfl
      unfold gOne at happ ⊢
      generalize nm.getD (deed.getD (nm.idxOf o) 0).toNat 0 = v3 at j3 j4 happ ⊢
      generalize deed.getD (nm.idxOf o) 0 = v2 at j2 j3
      generalize ((nm.idxOf o : Nat) : Int) = v1 at j1 j2
      generalize ((oo.idxOf v3 : Nat) : Int) = v4 at j4 happ ⊢
      simp [j1, j2, j3, j4, happ]
    rw [List.map_cons]
    unfold forL
    rw [r_gN]
    refine O.wp_bind (O.wp_of e ?_)
    refine O.wp_mono (row_loop hm hn hO hd s0 s1 s2 s3 s5 s7 s10 s12 s13 s14 s15 s16 fr4 fr8 os (acc ++ [gOne nm oo deed o]) _ (fun z hz => ho z (List.mem_cons_of_mem _ hz)) (by rw [List.length_append, List.length_singleton]; omega)) fun r h => ?_
    obtain ⟨k1, t9, k2⟩ := h
    exact ⟨k1, t9, by rw [k2]; simp⟩
abbrev bGd : SF := (sSeq (sSet 11 (fLst [])) b_law_glued_7)
theorem gd_loop {many : Int} {nm oo : List Int} (hm : many ≤ 27) (hn : NmOk many nm) (hO : ∀ z, z ∈ oo ↔ z ∈ nm) (hOl : oo.length ≤ 900) (s0 s1 s2 s3 s7 s10 s12 s13 s14 s15 s16 : Option (Bool × D)) (fr8 : Bool) : ∀ (deeds acc : List (List Int)) (fr4 : Bool) (s6 s9 s11 : Option (Bool × D)), (∀ r ∈ deeds, RowOk many r) → acc.length + deeds.length ≤ 1000 →
    (forL (gN 6) bGd (deeds.map iT) (W s0 s1 s2 s3 (some (fr4, .lst (oo.map .int))) (some (true, .lst (acc.map iT))) s6 s7 (some (fr8, .lst (nm.map .int))) s9 s10 s11 s12 s13 s14 s15 s16)).wp fun r => r.1 = .nx ∧ ∃ (fr4 : Bool) (s6 s9 s11 : Option (Bool × D)), r.2 = W s0 s1 s2 s3 (some (fr4, .lst (oo.map .int))) (some (true, .lst ((acc ++ deeds.map (gRow nm oo)).map iT))) s6 s7 (some (fr8, .lst (nm.map .int))) s9 s10 s11 s12 s13 s14 s15 s16
  | [], acc, fr4, s6, s9, s11, _, _ => ⟨rfl, fr4, s6, s9, s11, by simp⟩
  | deed :: deeds, acc, fr4, s6, s9, s11, hd, hl => by
    rw [List.length_cons] at hl
    have hb : (bGd (W s0 s1 s2 s3 (some (fr4, .lst (oo.map .int))) (some (true, .lst (acc.map iT))) (some (false, iT deed)) s7 (some (fr8, .lst (nm.map .int))) s9 s10 s11 s12 s13 s14 s15 s16)).wp fun r => r.1 = .nx ∧ ∃ (s9 s11 : Option (Bool × D)), r.2 = W s0 s1 s2 s3 (some (false, .lst (oo.map .int))) (some (true, .lst ((acc ++ [gRow nm oo deed]).map iT))) (some (false, iT deed)) s7 (some (fr8, .lst (nm.map .int))) s9 s10 s11 s12 s13 s14 s15 s16 := by
      refine seq_set (fr := true) (d := .lst []) (ρ' := W s0 s1 s2 s3 (some (fr4, .lst (oo.map .int))) (some (true, .lst (acc.map iT))) (some (false, iT deed)) s7 (some (fr8, .lst (nm.map .int))) s9 s10 s11 s12 s13 s14 s15 s16) (by simp) ?_
      unfold b_law_glued_7
      refine seq_wp ?_
      have hit : fIt (fVar 4) (W s0 s1 s2 s3 (some (fr4, .lst (oo.map .int))) (some (true, .lst (acc.map iT))) (some (false, iT deed)) s7 (some (fr8, .lst (nm.map .int))) s9 s10 (some (true, .lst [])) s12 s13 s14 s15 s16) = .ok (oo.map .int, W s0 s1 s2 s3 (some (false, .lst (oo.map .int))) (some (true, .lst (acc.map iT))) (some (false, iT deed)) s7 (some (fr8, .lst (nm.map .int))) s9 s10 (some (true, .lst [])) s12 s13 s14 s15 s16) := by simp
      show (sFor _ _ _ (W s0 s1 s2 s3 (some (fr4, .lst (oo.map .int))) (some (true, .lst (acc.map iT))) (some (false, iT deed)) s7 (some (fr8, .lst (nm.map .int))) s9 s10 (some (true, .lst [])) s12 s13 s14 s15 s16)).wp _
      rw [r_for, hit, O.bind_ok]
      refine O.wp_mono (row_loop hm hn hO (hd deed List.mem_cons_self) s0 s1 s2 s3 (some (true, .lst (acc.map iT))) s7 s10 s12 s13 s14 s15 s16 false fr8 oo [] s9 (fun _ h => h) (by simp; omega)) fun r h => ?_
      obtain ⟨k1, t9, k2⟩ := h
      refine ⟨k1, ?_⟩
      rw [k2, List.nil_append]
      have happ : mApp (acc.map iT) [iT (gRow nm oo deed)] = some (.non, (acc ++ [gRow nm oo deed]).map iT) := by
        unfold mApp
        dsimp only
        rw [if_pos (by rw [List.length_map]; omega), List.map_append]
        rfl
      have htp : dTuple [.lst ((oo.map (gOne nm oo deed)).map .int)] = some (false, iT (gRow nm oo deed)) := rfl
      refine O.wp_of (a := (.nx, W s0 s1 s2 s3 (some (false, .lst (oo.map .int))) (some (true, .lst ((acc ++ [gRow nm oo deed]).map iT))) (some (false, iT deed)) s7 (some (fr8, .lst (nm.map .int))) t9 s10 (some (true, .lst ((oo.map (gOne nm oo deed)).map .int))) s12 s13 s14 s15 s16)) ?_ ⟨rfl, t9, _, rfl⟩
      generalize hL : (oo.map (gOne nm oo deed)).map D.int = L at htp
      generalize gRow nm oo deed = g at htp happ
      rw [r_exp, r_mut]
      simp only [List.getElem?_cons_succ, List.getElem?_cons_zero, r_evA1, r_opN, r_evs1, r_pr, O.bind_ok, r_evs0, r_gets1, r_get0, r_slot, r_gets0, htp, r_evA0, happ]
      rfl
    rw [List.map_cons]
    unfold forL
    rw [r_gN]
    refine O.wp_bind (O.wp_mono hb fun r h => ?_)
    obtain ⟨fl, ρ⟩ := r
    obtain ⟨k1, t9, t11, k2⟩ := h
    cases k1
    dsimp only at k2
    subst k2
    refine O.wp_mono (gd_loop hm hn hO hOl s0 s1 s2 s3 s7 s10 s12 s13 s14 s15 s16 fr8 deeds (acc ++ [gRow nm oo deed]) false _ t9 t11 (fun z hz => hd z (List.mem_cons_of_mem _ hz)) (by rw [List.length_append, List.length_singleton]; omega)) fun r h => ?_
    obtain ⟨m1, f4, t6, u9, u11, m2⟩ := h
    exact ⟨m1, f4, t6, u9, u11, by rw [m2]; simp⟩
end H
namespace H
set_option autoImplicit false
open PySem L2 U
theorem nubI_len : ∀ l : List Int, (nubI l).length ≤ l.length
  | [] => Nat.le_refl _
  | x :: l => by
    have := nubI_len l
    unfold nubI
    split <;> simp <;> omega
theorem sort_mem (nm : List Int) (z : Int) : z ∈ sortI (nubI nm) ↔ z ∈ nm := by
  rw [(sortI_perm (nubI nm)).mem_iff, nubI_mem]
theorem glued_sys {many : Int} {rows : List (List Int)} {nm : List Int} (S : SysOk many rows) (hm : many ≤ 27) (hn : NmOk many nm) : SysOk (sortI (nubI nm)).length (rows.map (gRow nm (sortI (nubI nm)))) := by
  have hl : (sortI (nubI nm)).length ≤ nm.length := by rw [(sortI_perm (nubI nm)).length_eq]; exact nubI_len nm
  have hpos : 0 < (sortI (nubI nm)).length := by
    have h1 := S.lo
    have h2 := hn.1
    cases nm with
    | nil => simp at h2; omega
    | cons x l => exact List.length_pos_of_mem ((sort_mem (x :: l) x).mpr List.mem_cons_self)
  have h2 := hn.1
  refine ⟨by omega, by omega, by rw [List.length_map]; exact S.nr, fun r hr => ?_, fun r hr z hz => ?_⟩
  · obtain ⟨deed, _, rfl⟩ := List.mem_map.mp hr
    unfold gRow
    rw [List.length_map]
  · obtain ⟨deed, hdm, rfl⟩ := List.mem_map.mp hr
    obtain ⟨one, ho, rfl⟩ := List.mem_map.mp hz
    have hom := (sort_mem nm one).mp ho
    have hil := List.idxOf_lt_length_iff.mpr hom
    have hdl := S.len deed hdm
    have hdm2 := getD_mem (nm := deed) (k := ((nm.idxOf one : Nat) : Int)) (by omega) (by omega)
    rw [Int.toNat_natCast] at hdm2
    have hdr := S.rg deed hdm _ hdm2
    have hnm := getD_mem (nm := nm) hdr.1 (by omega)
    have := List.idxOf_lt_length_iff.mpr ((sort_mem nm _).mpr hnm)
    unfold gOne
    omega
theorem glued_ok {es : List D} (hb : BxI es) {many : Int} {rows : List (List Int)} (S : SysOk many rows) (hm : many ≤ 27) (hr6 : rows.length ≤ 6) : ∃ (es' : List D) (many' : Int) (rows' : List (List Int)), d_law_glued [.lst es, sysD many rows] = .ok (false, sysD many' rows', [.lst es']) ∧ BxI es' ∧ SysOk many' rows' ∧ rows'.length = rows.length ∧ many' ≤ 27 := by
  have hlo := S.lo
  obtain ⟨a, es1, t1, a0, a1, hb1, hi1⟩ := take_ok hb.1 (many := many) (by omega) (by omega)
  obtain ⟨b, es2, t2, b0, b1, hb2, hi2⟩ := take_ok hb1 (many := many) (by omega) (by omega)
  have hrg := lstRg_ok (j := many) (by omega) (by omega)
  have main : (b_law_glued_12 (W (some (true, .lst es)) (some (false, sysD many rows)) none none none none none none none none none none none none none none none)).wp fun r => ∃ (es' : List D) (many' : Int) (rows' : List (List Int)) (ρ : En), r = (.rt false (sysD many' rows'), ρ) ∧ ρ[0]? = some (some (true, .lst es')) ∧ BxI es' ∧ SysOk many' rows' ∧ rows'.length = rows.length ∧ many' ≤ 27 := by
    unfold b_law_glued_12
    refine seq_nx (ρ' := W (some (true, .lst es)) (some (false, sysD many rows)) none none none none none (some (false, .int many)) (some (true, .lst ((ups many.toNat).map .int))) none none none none none none none none) (by simp [hrg]) ?_
    unfold b_law_glued_11
    refine seq_nx (ρ' := W (some (true, .lst es2)) (some (false, sysD many rows)) none none none none none (some (false, .int many)) (some (true, .lst ((ups many.toNat).map .int))) (some (false, .int a)) (some (false, .int b)) none none none none none none) (by simp [q_take, t1, hi1, t2, hi2]) ?_
    refine seq_set (fr := true) (d := .lst ([[a, b]].map iT)) (ρ' := W (some (true, .lst es2)) (some (false, sysD many rows)) none none none none none (some (false, .int many)) (some (true, .lst ((ups many.toNat).map .int))) (some (false, .int a)) (some (false, .int b)) none none none none none none) rfl ?_
    unfold b_law_glued_10
    have hmul := v_mulP (by omega : 0 ≤ many) (by omega : many < 2 ^ 62) (by decide : (0:Int) ≤ 9) (by decide)
    have hr := rg1_ok (j := many * 9 + 9) (by omega) (by omega)
    have hups : ups (many * 9 + 9).toNat = (List.range' 0 (many * 9 + 9).toNat).map fun i => ((i : Nat) : Int) := by unfold ups; rw [List.range_eq_range']
    refine seq_wp ?_
    have hfi : fRg rg1 [(.val (op2 dAdd (.val (op2 dMul (.var 7) (.val (fC (.int 9))))) (.val (fC (.int 9)))))] (W (some (true, .lst es2)) (some (false, sysD many rows)) (some (true, .lst ([[a, b]].map iT))) none none none none (some (false, .int many)) (some (true, .lst ((ups many.toNat).map .int))) (some (false, .int a)) (some (false, .int b)) none none none none none none) =
        .ok ((ups (many * 9 + 9).toNat).map .int, W (some (true, .lst es2)) (some (false, sysD many rows)) (some (true, .lst ([[a, b]].map iT))) none none none none (some (false, .int many)) (some (true, .lst ((ups many.toNat).map .int))) (some (false, .int a)) (some (false, .int b)) none none none none none none) := by
      generalize hL : [[a, b]].map iT = L
      simp [hmul, hr]
    show (sFor _ _ _ (W (some (true, .lst es2)) (some (false, sysD many rows)) (some (true, .lst ([[a, b]].map iT))) none none none none (some (false, .int many)) (some (true, .lst ((ups many.toNat).map .int))) (some (false, .int a)) (some (false, .int b)) none none none none none none)).wp _
    rw [r_for, hfi, O.bind_ok, hups]
    refine O.wp_mono (glue_loop S hm hr6 (some (true, .lst es2)) none none (some (false, .int b)) none none none (many * 9 + 9).toNat 0 (ups many.toNat) [[a, b]] true true none none none none none (some (.int a)) (by omega) ⟨by rw [ups_len]; omega, fun z hz => by have := ups_mem hz; omega⟩ (fun p hp => by rw [List.mem_singleton.mp hp]; exact ⟨a, b, rfl, ⟨a0, a1⟩, b0, b1⟩) (by simp)) fun r h => ?_
    obtain ⟨fl, ρ⟩ := r
    obtain ⟨k1, nm, prs, fr, fr2, s3, s6, s12, s13, s14, k2, hn, hp, hpl⟩ := h
    cases k1
    dsimp only at k2
    subst k2
    refine ⟨rfl, ?_⟩
    have hss : dSortSet [.lst (nm.map .int)] = some (true, .lst ((sortI (nubI nm)).map .int)) := by
      have hl1 := hn.1
      have hl2 := nubI_len nm
      unfold dSortSet
      dsimp only
      rw [intsD_of]
      dsimp only [Option.bind]
      rw [if_pos ⟨by omega, by omega⟩]
    refine seq_set (fr := true) (d := .lst ((sortI (nubI nm)).map .int)) (ρ' := W (some (true, .lst es2)) (some (false, sysD many rows)) (some (fr2, .lst (prs.map iT))) s3 none none s6 (some (false, .int many)) (some (fr, .lst (nm.map .int))) (some (false, .int a)) (some (false, .int b)) none s12 s13 s14 none none) (by simp [hss]) ?_
    unfold b_law_glued_9
    generalize hOO : sortI (nubI nm) = oo
    have htest : tOp2 dGt (.val (opN dLen [(.var 2)])) (.val (op2 dAdd (.val (op2 dMul (.var 7) (.val (fC (.int 9))))) (.val (fC (.int 8))))) (W (some (true, .lst es2)) (some (false, sysD many rows)) (some (fr2, .lst (prs.map iT))) s3 (some (true, .lst (oo.map .int))) none s6 (some (false, .int many)) (some (fr, .lst (nm.map .int))) (some (false, .int a)) (some (false, .int b)) none s12 s13 s14 none none) =
        .ok (decide (many * 9 + 8 < ((prs.map iT).length : Int)), W (some (true, .lst es2)) (some (false, sysD many rows)) (some (fr2, .lst (prs.map iT))) s3 (some (true, .lst (oo.map .int))) none s6 (some (false, .int many)) (some (fr, .lst (nm.map .int))) (some (false, .int a)) (some (false, .int b)) none s12 s13 s14 none none) := by
      generalize hL : prs.map iT = L
      generalize hM : oo.map D.int = M
      generalize hN : nm.map D.int = N
      simp [hmul]
    by_cases hlong : many * 9 + 8 < ((prs.map iT).length : Int)
    · have e1 : sIf (tOp2 dGt (.val (opN dLen [(.var 2)])) (.val (op2 dAdd (.val (op2 dMul (.var 7) (.val (fC (.int 9))))) (.val (fC (.int 8)))))) (sRet (fMv 1)) sNil (W (some (true, .lst es2)) (some (false, sysD many rows)) (some (fr2, .lst (prs.map iT))) s3 (some (true, .lst (oo.map .int))) none s6 (some (false, .int many)) (some (fr, .lst (nm.map .int))) (some (false, .int a)) (some (false, .int b)) none s12 s13 s14 none none) =
          .ok (.rt false (sysD many rows), W (some (true, .lst es2)) (some (false, sysD many rows)) (some (fr2, .lst (prs.map iT))) s3 (some (true, .lst (oo.map .int))) none s6 (some (false, .int many)) (some (fr, .lst (nm.map .int))) (some (false, .int a)) (some (false, .int b)) none s12 s13 s14 none none) := by
        rw [r_sIf, htest, O.bind_ok, if_pos (decide_eq_true hlong)]
        rfl
      show (sSeq _ _ (W (some (true, .lst es2)) (some (false, sysD many rows)) (some (fr2, .lst (prs.map iT))) s3 (some (true, .lst (oo.map .int))) none s6 (some (false, .int many)) (some (fr, .lst (nm.map .int))) (some (false, .int a)) (some (false, .int b)) none s12 s13 s14 none none)).wp _
      rw [r_seq, e1, O.bind_ok]
      exact ⟨es2, many, rows, _, rfl, rfl, ⟨hb2, hi2⟩, S, rfl, hm⟩
    · have e1 : sIf (tOp2 dGt (.val (opN dLen [(.var 2)])) (.val (op2 dAdd (.val (op2 dMul (.var 7) (.val (fC (.int 9))))) (.val (fC (.int 8)))))) (sRet (fMv 1)) sNil (W (some (true, .lst es2)) (some (false, sysD many rows)) (some (fr2, .lst (prs.map iT))) s3 (some (true, .lst (oo.map .int))) none s6 (some (false, .int many)) (some (fr, .lst (nm.map .int))) (some (false, .int a)) (some (false, .int b)) none s12 s13 s14 none none) =
          .ok (.nx, W (some (true, .lst es2)) (some (false, sysD many rows)) (some (fr2, .lst (prs.map iT))) s3 (some (true, .lst (oo.map .int))) none s6 (some (false, .int many)) (some (fr, .lst (nm.map .int))) (some (false, .int a)) (some (false, .int b)) none s12 s13 s14 none none) := by
        rw [r_sIf, htest, O.bind_ok, if_neg (by simpa using hlong)]
        rfl
      refine seq_nx e1 ?_
      refine seq_set (fr := true) (d := .lst []) (ρ' := W (some (true, .lst es2)) (some (false, sysD many rows)) (some (fr2, .lst (prs.map iT))) s3 (some (true, .lst (oo.map .int))) none s6 (some (false, .int many)) (some (fr, .lst (nm.map .int))) (some (false, .int a)) (some (false, .int b)) none s12 s13 s14 none none) rfl ?_
      unfold b_law_glued_8
      refine seq_wp ?_
      have hit : fIt (op2 dIx (.var 1) (.val (fC (.int 1)))) (W (some (true, .lst es2)) (some (false, sysD many rows)) (some (fr2, .lst (prs.map iT))) s3 (some (true, .lst (oo.map .int))) (some (true, .lst [])) s6 (some (false, .int many)) (some (fr, .lst (nm.map .int))) (some (false, .int a)) (some (false, .int b)) none s12 s13 s14 none none) = .ok (rows.map iT, W (some (true, .lst es2)) (some (false, sysD many rows)) (some (fr2, .lst (prs.map iT))) s3 (some (true, .lst (oo.map .int))) (some (true, .lst [])) s6 (some (false, .int many)) (some (fr, .lst (nm.map .int))) (some (false, .int a)) (some (false, .int b)) none s12 s13 s14 none none) := by
        generalize hL : prs.map iT = L
        generalize hM : oo.map D.int = M
        generalize hN : nm.map D.int = N
        simp
      show (sFor _ _ _ (W (some (true, .lst es2)) (some (false, sysD many rows)) (some (fr2, .lst (prs.map iT))) s3 (some (true, .lst (oo.map .int))) (some (true, .lst [])) s6 (some (false, .int many)) (some (fr, .lst (nm.map .int))) (some (false, .int a)) (some (false, .int b)) none s12 s13 s14 none none)).wp _
      rw [r_for, hit, O.bind_ok]
      have hol : oo.length ≤ 900 := by
        rw [← hOO, (sortI_perm (nubI nm)).length_eq]
        have := nubI_len nm
        have := hn.1
        omega
      refine O.wp_mono (gd_loop hm hn (oo := oo) (fun z => by rw [← hOO]; exact sort_mem nm z) hol (some (true, .lst es2)) (some (false, sysD many rows)) (some (fr2, .lst (prs.map iT))) s3 (some (false, .int many)) (some (false, .int b)) s12 s13 s14 none none fr rows [] true s6 (some (false, .int a)) none (fun r hr => ⟨S.len r hr, S.rg r hr⟩) (by simp; omega)) fun r h => ?_
      obtain ⟨fl, ρ⟩ := r
      obtain ⟨m1, f4, u6, u9, u11, m2⟩ := h
      cases m1
      dsimp only at m2
      subst m2
      refine ⟨rfl, ?_⟩
      have hS := glued_sys S hm hn
      rw [hOO] at hS
      rw [List.nil_append]
      refine O.wp_of (a := (.rt false (sysD oo.length (rows.map (gRow nm oo))), W (some (true, .lst es2)) (some (false, sysD many rows)) (some (fr2, .lst (prs.map iT))) s3 (some (f4, .lst (oo.map .int))) (some (true, .lst ((rows.map (gRow nm oo)).map iT))) u6 (some (false, .int many)) (some (fr, .lst (nm.map .int))) u9 (some (false, .int b)) u11 s12 s13 s14 none none)) ?_ ⟨es2, _, _, _, rfl, rfl, ⟨hb2, hi2⟩, hS, by rw [List.length_map], ?_⟩
      · have hdl : dLen [.lst (oo.map .int)] = some (false, .int oo.length) := by rw [v_lenL, List.length_map]
        generalize hM : oo.map D.int = M at hdl
        generalize (rows.map (gRow nm oo)) = rr
        generalize (oo.length : Int) = ol at hdl
        rw [r_ret, r_tup]
        simp only [r_evA1, r_opN, r_evs1, r_pr, List.getElem?_cons_succ, List.getElem?_cons_zero, O.bind_ok, r_evs0, r_gets1, r_get0, r_slot, r_gets0, hdl, r_evA0, v_tupleL]
        rfl
      · rw [← hOO, (sortI_perm (nubI nm)).length_eq]
        have := nubI_len nm
        have := hn.1
        omega
  obtain ⟨r, er, es', many', rows', ρ, z1, z2, z3, z4, z5, z6⟩ := O.wp_ex main
  refine ⟨es', many', rows', ?_, z3, z4, z5, z6⟩
  have run : d_law_glued [.lst es, sysD many rows] = finF true (b_law_glued_12 (W (some (true, .lst es)) (some (false, sysD many rows)) none none none none none none none none none none none none none none none)) := rfl
  rw [run, er, z1]
  simp [finF, outs, z2]
end H
namespace H
set_option autoImplicit false
open PySem L2 U
/-! ### _law_system -/
theorem fronts_drw {es : List D} (hb : BxI es) {n : Nat} (hn : n ≤ 4) {dd : Int} (h0 : 1 ≤ dd) (h1 : dd ≤ 6) : ∃ (es' : List D) (many : Int) (rows : List (List Int)), d_law_fronts [.lst es, .int n, .int dd] = .ok (false, sysD many rows, [.lst es']) ∧ BxI es' ∧ Drw many rows := by
  obtain ⟨es', lots, e, k1, k2, k3⟩ := fronts_ok hb hn (by omega : 0 ≤ dd) (by omega)
  have hl : (fTab n lots).length = lots.length := by unfold fTab; simp
  have h24 := orders_few hn
  exact ⟨es', _, _, e, k1, ⟨.frn hn k2, by omega, by omega, by omega⟩⟩
theorem few_again {es : List D} (hb : BxI es) {dd : Int} (h0 : 1 ≤ dd) (h1 : dd ≤ 6) (most : Int) (s3 s5 : Option (Bool × D)) (s4 : Option (Bool × D)) : ∃ (es' : List D) (many : Int) (rows : List (List Int)), sSet 4 (fCallIO d_law_few 0 [(.val (opN dMin2 [(.val (fC (.int 3))), (.var 2)]))]) [some (true, .lst es), some (false, .int most), some (false, .int dd), s3, s4, s5] = .ok (.nx, [some (true, .lst es'), some (false, .int most), some (false, .int dd), s3, some (false, sysD many rows), s5]) ∧ BxI es' ∧ Drw many rows := by
  obtain ⟨es', many, rows, e, k1, k2, _⟩ := few_ok hb (dd := if dd < 3 then dd else 3) (by split <;> omega) (by split <;> omega)
  refine ⟨es', many, rows, ?_, k1, k2⟩
  have himm := imm_sys many rows
  have himm2 := k1.2
  simp [e, himm, himm2]
theorem system_ok {es : List D} (hb : BxI es) {most : Int} (h0 : 2 ≤ most) (h1 : most ≤ 1000) : ∃ (es' : List D) (many : Int) (rows : List (List Int)), d_law_system [.lst es, .int most] = .ok (false, sysD many rows, [.lst es']) ∧ BxI es' ∧ Drw many rows ∧ many ≤ most := by
  obtain ⟨a, es1, t1, a0, a1, hb1, hi1⟩ := take_ok hb.1 (many := 4) (by decide) (by decide)
  obtain ⟨b, es2, t2, b0, b1, hb2, hi2⟩ := take_ok hb1 (many := 4) (by decide) (by decide)
  obtain ⟨kind, es3, t3, c0, c1, hb3, hi3⟩ := take_ok hb2 (many := 5) (by decide) (by decide)
  obtain ⟨dd, hdd, d0, d1⟩ : ∃ dd : Int, dd = 1 + (if b > a then b else a) ∧ 1 ≤ dd ∧ dd ≤ 4 := ⟨_, rfl, by split <;> omega, by split <;> omega⟩
  have main : (b_law_system [some (true, .lst es), some (false, .int most), none, none, none, none]).wp fun r => ∃ (es' : List D) (many : Int) (rows : List (List Int)) (ρ : En), r = (.rt false (sysD many rows), ρ) ∧ ρ[0]? = some (some (true, .lst es')) ∧ BxI es' ∧ Drw many rows ∧ many ≤ most := by
    unfold b_law_system
    refine seq_set (fr := false) (d := .int dd) (ρ' := [some (true, .lst es2), some (false, .int most), none, none, none, none]) (by rw [hdd]; simp [q_take, t1, hi1, t2, hi2]) ?_
    refine seq_set (fr := false) (d := .int kind) (ρ' := [some (true, .lst es3), some (false, .int most), some (false, .int dd), none, none, none]) (by simp [q_take, t3, hi3]) ?_
    -- the first draw
    have first : ∃ (es' : List D) (many : Int) (rows : List (List Int)), sIf (tOp2 dLt (.var 3) (.val (fC (.int 2)))) (sSet 4 (fCallIO d_law_settings 0 [(.var 2)])) (sIf (tOp2 dEq (.var 3) (.val (fC (.int 2)))) (sSet 4 (fCallIO d_law_fronts 0 [(.val (op2 dSub (.val (fIf (tOp2 dLt (.var 1) (.val (fC (.int 24)))) (fC (.int 3)) (fC (.int 4)))) (.val (fCallIO d_law_take 0 [(.val (fC (.int 2)))])))), (.var 2)])) (sSet 4 (fCallIO d_law_few 0 [(.val (opN dMin2 [(.val (fC (.int 3))), (.var 2)]))]))) [some (true, .lst es3), some (false, .int most), some (false, .int dd), some (false, .int kind), none, none] = .ok (.nx, [some (true, .lst es'), some (false, .int most), some (false, .int dd), some (false, .int kind), some (false, sysD many rows), none]) ∧ BxI es' ∧ Drw many rows := by
      by_cases hk : kind < 2
      · obtain ⟨es', many, rows, e, k1, k2, _⟩ := settings_drw ⟨hb3, hi3⟩ d0 (by omega : dd ≤ 6)
        have himm := imm_sys many rows
        have himm2 := k1.2
        exact ⟨es', many, rows, by simp [hk, e, himm, himm2], k1, k2⟩
      · by_cases hk2 : kind = 2
        · obtain ⟨u, es4, t4, u0, u1, hb4, hi4⟩ := take_ok hb3 (many := 2) (by decide) (by decide)
          obtain ⟨n, hn, hn4⟩ : ∃ n : Nat, (if most < 24 then (3:Int) else 4) - u = (n : Int) ∧ n ≤ 4 := ⟨((if most < 24 then (3:Int) else 4) - u).toNat, by split <;> omega, by split <;> omega⟩
          obtain ⟨es', many, rows, e, k1, k2⟩ := fronts_drw ⟨hb4, hi4⟩ hn4 d0 (by omega : dd ≤ 6)
          have himm := imm_sys many rows
          have himm2 := k1.2
          refine ⟨es', many, rows, ?_, k1, k2⟩
          rw [← hn] at e
          subst hk2
          by_cases hm : most < 24
          · rw [if_pos hm] at e
            simp [q_take, t4, hi4, hm, e, himm, himm2]
          · rw [if_neg hm] at e
            simp [q_take, t4, hi4, hm, e, himm, himm2]
        · obtain ⟨es', many, rows, e, k1, k2⟩ := few_again ⟨hb3, hi3⟩ d0 (by omega : dd ≤ 6) most (some (false, .int kind)) none none
          refine ⟨es', many, rows, ?_, k1, k2⟩
          have hA : tOp2 dLt (.var 3) (.val (fC (.int 2))) [some (true, .lst es3), some (false, .int most), some (false, .int dd), some (false, .int kind), none, none] = .ok (false, [some (true, .lst es3), some (false, .int most), some (false, .int dd), some (false, .int kind), none, none]) := by simp [hk]
          have hB : tOp2 dEq (.var 3) (.val (fC (.int 2))) [some (true, .lst es3), some (false, .int most), some (false, .int dd), some (false, .int kind), none, none] = .ok (false, [some (true, .lst es3), some (false, .int most), some (false, .int dd), some (false, .int kind), none, none]) := by simp [hk2]
          rw [r_sIf, hA, O.bind_ok, if_neg Bool.false_ne_true, r_sIf, hB, O.bind_ok, if_neg Bool.false_ne_true]
          exact e
    obtain ⟨es4, many, rows, e4, hb4, hD⟩ := first
    refine seq_nx e4 ?_
    -- glued now and then
    have second : ∃ (es' : List D) (many' : Int) (rows' : List (List Int)) (s5 : Option (Bool × D)), sIf (tOr' (tOp2 dEq (.var 3) (.val (fC (.int 4)))) (tOp2 dEq (.val (fCallIO d_law_take 0 [(.val (fC (.int 4)))])) (.val (fC (.int 0))))) (sSeq (sSet 5 (fCallIO d_law_glued 0 [(.var 4)])) (sSet 4 (fIf (tOf (.val (fCall d_law_is_plain [(.var 5)]))) (fVar 5) (fVar 4)))) sNil [some (true, .lst es4), some (false, .int most), some (false, .int dd), some (false, .int kind), some (false, sysD many rows), none] = .ok (.nx, [some (true, .lst es'), some (false, .int most), some (false, .int dd), some (false, .int kind), some (false, sysD many' rows'), s5]) ∧ BxI es' ∧ Drw many' rows' := by
      have glue : ∀ {es5 : List D}, BxI es5 → ∃ (es' : List D) (many' : Int) (rows' : List (List Int)) (s5 : Option (Bool × D)), sSeq (sSet 5 (fCallIO d_law_glued 0 [(.var 4)])) (sSet 4 (fIf (tOf (.val (fCall d_law_is_plain [(.var 5)]))) (fVar 5) (fVar 4))) [some (true, .lst es5), some (false, .int most), some (false, .int dd), some (false, .int kind), some (false, sysD many rows), none] = .ok (.nx, [some (true, .lst es'), some (false, .int most), some (false, .int dd), some (false, .int kind), some (false, sysD many' rows'), s5]) ∧ BxI es' ∧ Drw many' rows' := by
        intro es5 hb5
        obtain ⟨es6, many', rows', e, k1, k2, k3, k4⟩ := glued_ok hb5 hD.sys hD.sm hD.hi
        have hpl := plain_ok k2 (by have := hD.lo; omega) (by have := hD.hi; omega)
        have himm := imm_sys many rows
        have himm' := imm_sys many' rows'
        have himm2 := k1.2
        by_cases hp : plainB many' rows' = true
        · rw [hp] at hpl
          exact ⟨es6, many', rows', some (false, sysD many' rows'), by simp [e, himm', himm2, hpl], k1, ⟨.pln k2 hp, by have := hD.lo; omega, by have := hD.hi; omega, k4⟩⟩
        · have hp' : plainB many' rows' = false := by simpa using hp
          rw [hp'] at hpl
          exact ⟨es6, many, rows, some (false, sysD many' rows'), by simp [e, himm', himm2, hpl], k1, hD⟩
      by_cases hk : kind = 4
      · obtain ⟨es', many', rows', s5, e, k1, k2⟩ := glue hb4
        refine ⟨es', many', rows', s5, ?_, k1, k2⟩
        have hA : tOr' (tOp2 dEq (.var 3) (.val (fC (.int 4)))) (tOp2 dEq (.val (fCallIO d_law_take 0 [(.val (fC (.int 4)))])) (.val (fC (.int 0)))) [some (true, .lst es4), some (false, .int most), some (false, .int dd), some (false, .int kind), some (false, sysD many rows), none] = .ok (true, [some (true, .lst es4), some (false, .int most), some (false, .int dd), some (false, .int kind), some (false, sysD many rows), none]) := by simp [hk]
        rw [r_sIf, hA, O.bind_ok, if_pos rfl]
        exact e
      · obtain ⟨u, es5, t5, u0, u1, hb5, hi5⟩ := take_ok hb4.1 (many := 4) (by decide) (by decide)
        have hA : tOr' (tOp2 dEq (.var 3) (.val (fC (.int 4)))) (tOp2 dEq (.val (fCallIO d_law_take 0 [(.val (fC (.int 4)))])) (.val (fC (.int 0)))) [some (true, .lst es4), some (false, .int most), some (false, .int dd), some (false, .int kind), some (false, sysD many rows), none] = .ok (u == 0, [some (true, .lst es5), some (false, .int most), some (false, .int dd), some (false, .int kind), some (false, sysD many rows), none]) := by simp [hk, q_take, t5, hi5]
        by_cases hu : u = 0
        · obtain ⟨es', many', rows', s5, e, k1, k2⟩ := glue (es5 := es5) ⟨hb5, hi5⟩
          refine ⟨es', many', rows', s5, ?_, k1, k2⟩
          rw [r_sIf, hA, O.bind_ok, if_pos (by simp [hu])]
          exact e
        · refine ⟨es5, many, rows, none, ?_, ⟨hb5, hi5⟩, hD⟩
          rw [r_sIf, hA, O.bind_ok, if_neg (by simp [hu])]
          rfl
    obtain ⟨es5, many, rows, s5, e5, hb5, hD⟩ := second
    refine seq_nx e5 ?_
    have third : ∃ (es' : List D) (many' : Int) (rows' : List (List Int)), sIf (tOp2 dGt (.val (op2 dIx (.var 4) (.val (fC (.int 0))))) (.var 1)) (sSet 4 (fCallIO d_law_few 0 [(.val (opN dMin2 [(.val (fC (.int 3))), (.var 2)]))])) sNil [some (true, .lst es5), some (false, .int most), some (false, .int dd), some (false, .int kind), some (false, sysD many rows), s5] = .ok (.nx, [some (true, .lst es'), some (false, .int most), some (false, .int dd), some (false, .int kind), some (false, sysD many' rows'), s5]) ∧ BxI es' ∧ Drw many' rows' := by
      have hA : tOp2 dGt (.val (op2 dIx (.var 4) (.val (fC (.int 0))))) (.var 1) [some (true, .lst es5), some (false, .int most), some (false, .int dd), some (false, .int kind), some (false, sysD many rows), s5] = .ok (decide (most < many), [some (true, .lst es5), some (false, .int most), some (false, .int dd), some (false, .int kind), some (false, sysD many rows), s5]) := by simp
      by_cases hm : most < many
      · obtain ⟨es', many', rows', e, k1, k2⟩ := few_again hb5 d0 (by omega : dd ≤ 6) most (some (false, .int kind)) s5 (some (false, sysD many rows))
        refine ⟨es', many', rows', ?_, k1, k2⟩
        rw [r_sIf, hA, O.bind_ok, if_pos (decide_eq_true hm)]
        exact e
      · refine ⟨es5, many, rows, ?_, hb5, hD⟩
        rw [r_sIf, hA, O.bind_ok, if_neg (by simp [hm])]
        rfl
    obtain ⟨es6, many, rows, e6, hb6, hD⟩ := third
    refine seq_nx e6 ?_
    have hA : tOp2 dLe (.val (op2 dIx (.var 4) (.val (fC (.int 0))))) (.var 1) [some (true, .lst es6), some (false, .int most), some (false, .int dd), some (false, .int kind), some (false, sysD many rows), s5] = .ok (decide (many ≤ most), [some (true, .lst es6), some (false, .int most), some (false, .int dd), some (false, .int kind), some (false, sysD many rows), s5]) := by simp
    by_cases hm : many ≤ most
    · refine O.wp_of (a := (.rt false (sysD many rows), [some (true, .lst es6), some (false, .int most), some (false, .int dd), some (false, .int kind), some (false, sysD many rows), s5])) ?_ ⟨es6, many, rows, _, rfl, rfl, hb6, hD, hm⟩
      rw [r_ret, r_if, hA, O.bind_ok, if_pos (decide_eq_true hm)]
      rfl
    · refine O.wp_of (a := (.rt false (sysD 2 [[0, 0], [1, 1]]), [some (true, .lst es6), some (false, .int most), some (false, .int dd), some (false, .int kind), some (false, sysD many rows), s5])) ?_ ⟨es6, 2, [[0, 0], [1, 1]], _, rfl, rfl, hb6, ⟨.pln ⟨by decide, by decide, by decide, by decide, by decide⟩ (by decide +kernel), by decide, by decide, by decide⟩, h0⟩
      rw [r_ret, r_if, hA, O.bind_ok, if_neg (by simp [hm])]
      rfl
  obtain ⟨r, er, es', many, rows, ρ, z1, z2, z3, z4, z5⟩ := O.wp_ex main
  refine ⟨es', many, rows, ?_, z3, z4, z5⟩
  have run : d_law_system [.lst es, .int most] = finF true (b_law_system [some (true, .lst es), some (false, .int most), none, none, none, none]) := rfl
  rw [run, er, z1]
  simp [finF, outs, z2]
end H
namespace H
set_option autoImplicit false
open PySem L2 U
/-! ### only the last time counts -/
def OnlyLast (many : Int) (rows : List (List Int)) : Prop := ∀ (d : Int) (run : List Int) (b : Int), 0 ≤ d → d < rows.length → RunOk rows run → 0 ≤ b → b < many → goes rows (d :: (run ++ [d])) b = goes rows (run ++ [d]) b
theorem goes_app (rows : List (List Int)) (r s : List Int) (b : Int) : goes rows (r ++ s) b = goes rows s (goes rows r b) := by
  unfold goes; rw [List.foldl_append]
/-- alike but for the fields that p sets -/
def Rel : List (Option Int) → List Int → List Int → Prop
  | [], [], [] => True
  | p :: ps, x :: xs, y :: ys => (p = none → x = y) ∧ Rel ps xs ys
  | _, _, _ => False
theorem rel_set : ∀ {p : List (Option Int)} {b : List Int}, p.length = b.length → Rel p (setF p b) b
  | [], [], _ => trivial
  | [], _ :: _, h => by simp at h
  | _ :: _, [], h => by simp at h
  | p :: ps, b :: bs, h => by
    rw [setF]
    exact ⟨fun e => by rw [e]; rfl, rel_set (by simpa using h)⟩
theorem rel_step : ∀ {p q : List (Option Int)} {x y : List Int}, q.length = p.length → Rel p x y → Rel p (setF q x) (setF q y)
  | [], [], [], [], _, _ => trivial
  | [], [], [], _ :: _, _, h => h.elim
  | [], [], _ :: _, _, _, h => by cases h
  | [], _ :: _, _, _, h, _ => by simp at h
  | _ :: _, [], _, _, h, _ => by simp at h
  | p :: ps, q :: qs, [], _, _, h => by cases h
  | p :: ps, q :: qs, _ :: _, [], _, h => by cases h
  | p :: ps, q :: qs, x :: xs, y :: ys, hl, h => by
    rw [setF, setF]
    refine ⟨fun e => by rw [h.1 e], rel_step (by simpa using hl) h.2⟩
theorem rel_eq : ∀ {p : List (Option Int)} {x y : List Int}, Rel p x y → setF p x = setF p y
  | [], [], [], _ => rfl
  | [], [], _ :: _, h => h.elim
  | [], _ :: _, _, h => by cases h
  | p :: ps, [], _, h => by cases h
  | p :: ps, _ :: _, [], h => by cases h
  | p :: ps, x :: xs, y :: ys, h => by
    rw [setF, setF, rel_eq h.2]
    cases p with
    | none => rw [h.1 rfl]
    | some v => rfl
/-- boards as fields: where a run leads -/
def runB (ps : List (List (Option Int))) (run : List Int) (b : List Int) : List Int := run.foldl (fun b d => setF (ps.getD d.toNat []) b) b
theorem rel_run {p : List (Option Int)} {ps : List (List (Option Int))} (hps : ∀ q ∈ ps, q.length = p.length) : ∀ {run : List Int} {x y : List Int}, (∀ d ∈ run, 0 ≤ d ∧ d < ps.length) → Rel p x y → Rel p (runB ps run x) (runB ps run y)
  | [], x, y, _, h => h
  | d :: run, x, y, hr, h => by
    have hd := hr d List.mem_cons_self
    have hk : d.toNat < ps.length := by omega
    have hm : ps.getD d.toNat [] ∈ ps := by simp [hk]
    exact rel_run hps (run := run) (fun z hz => hr z (List.mem_cons_of_mem _ hz)) (rel_step (hps _ hm) h)
theorem set_get {ps : List (List (Option Int))} {bs : List (List Int)} {f : Nat} (h : SetSys ps bs f) : ∀ (run : List Int) (i : Nat) (hi : i < bs.length), (∀ d ∈ run, 0 ≤ d ∧ d < ps.length) → ∃ (j : Nat) (hj : j < bs.length), goes (tabOf ps bs) run i = j ∧ bs[j] = runB ps run bs[i]
  | [], i, hi, _ => ⟨i, hi, rfl, rfl⟩
  | d :: run, i, hi, hr => by
    obtain ⟨hf, hps, hn, hb, hc, hne⟩ := id h
    have hd := hr d List.mem_cons_self
    have hk : d.toNat < ps.length := by omega
    have hm : ps[d.toNat] ∈ ps := List.getElem_mem hk
    have hmem := hc bs[i] (List.getElem_mem hi) _ hm
    have hj := List.idxOf_lt_length_iff.mpr hmem
    have e1 : act (tabOf ps bs) d i = ((bs.idxOf (setF ps[d.toNat] bs[i]) : Nat) : Int) := by
      unfold act tabOf
      simp [hk, hi]
    obtain ⟨j, hj', k1, k2⟩ := set_get h run (bs.idxOf (setF ps[d.toNat] bs[i])) hj fun z hz => hr z (List.mem_cons_of_mem _ hz)
    refine ⟨j, hj', ?_, ?_⟩
    · show goes (tabOf ps bs) run (act (tabOf ps bs) d i) = j
      rw [e1]; exact k1
    · rw [k2, List.getElem_idxOf]
      show runB ps run (setF ps[d.toNat] bs[i]) = runB ps run (setF (ps.getD d.toNat []) bs[i])
      have : ps.getD d.toNat [] = ps[d.toNat] := by simp [hk]
      rw [this]
theorem set_last {ps : List (List (Option Int))} {bs : List (List Int)} {f : Nat} (h : SetSys ps bs f) : OnlyLast bs.length (tabOf ps bs) := by
  intro d run b d0 d1 hr b0 b1
  have hl : (tabOf ps bs).length = ps.length := by unfold tabOf; simp
  have hb : ∃ i : Nat, b = i ∧ i < bs.length := ⟨b.toNat, by omega, by omega⟩
  obtain ⟨i, rfl, hi⟩ := hb
  have hd : 0 ≤ d ∧ d < ps.length := by omega
  have hr' : ∀ z ∈ run, 0 ≤ z ∧ z < (ps.length : Int) := fun z hz => by have := hr z hz; omega
  have hr2 : ∀ z ∈ run ++ [d], 0 ≤ z ∧ z < (ps.length : Int) := fun z hz => (List.mem_append.mp hz).elim (hr' z) fun q => by rw [List.mem_singleton.mp q]; exact hd
  obtain ⟨j, hj, k1, k2⟩ := set_get h (d :: (run ++ [d])) i hi fun z hz => (List.mem_cons.mp hz).elim (fun q => by rw [q]; exact hd) (hr2 z)
  obtain ⟨j', hj', m1, m2⟩ := set_get h (run ++ [d]) i hi hr2
  rw [k1, m1]
  have hk : d.toNat < ps.length := by omega
  have hm : ps[d.toNat] ∈ ps := List.getElem_mem hk
  have hpl := fun q hq => (h.2.1 q hq).1
  have hbl := (h.2.2.2.1 bs[i] (List.getElem_mem hi)).1
  have hg : ps.getD d.toNat [] = ps[d.toNat] := by simp [hk]
  have key : runB ps (d :: (run ++ [d])) bs[i] = runB ps (run ++ [d]) bs[i] := by
    have a1 : ∀ x, runB ps (run ++ [d]) x = setF ps[d.toNat] (runB ps run x) := fun x => by
      unfold runB
      rw [List.foldl_append]
      show setF (ps.getD d.toNat []) _ = _
      rw [hg]
    show runB ps (run ++ [d]) (setF (ps.getD d.toNat []) bs[i]) = _
    rw [a1, a1, hg]
    exact rel_eq (rel_run (fun q hq => by rw [hpl q hq, hpl _ hm]) hr' (rel_set (by rw [hpl _ hm, hbl])))
  have he : bs[j] = bs[j'] := by rw [k2, m2, key]
  have hpw := List.pairwise_iff_getElem.mp h.2.2.1
  rcases Nat.lt_trichotomy j j' with q | q | q
  · exact absurd he (hpw j j' hj hj' q)
  · rw [q]
  · exact absurd he.symm (hpw j' j hj' hj q)
end H
namespace H
set_option autoImplicit false
open PySem L2 U
abbrev outF (lot o : List Int) : List Int := o.filter fun z => !decide (z ∈ lot)
theorem out_front (p o : List Int) : outF p (frontF o p) = outF p o := by
  unfold outF frontF
  rw [List.filter_append, List.filter_filter]
  have h1 : p.filter (fun z => !decide (z ∈ p)) = [] := by
    rw [List.filter_eq_nil_iff]
    intro z hz
    simp [hz]
  rw [h1, List.nil_append]
  apply List.filter_congr
  intro z _
  simp
theorem out_step {p x y : List Int} (q : List Int) (h : outF p x = outF p y) : outF p (frontF x q) = outF p (frontF y q) := by
  unfold frontF
  show outF p (q ++ outF q x) = outF p (q ++ outF q y)
  unfold outF at *
  rw [List.filter_append, List.filter_append, List.filter_filter, List.filter_filter]
  congr 1
  have sw : ∀ l : List Int, l.filter (fun a => (!decide (a ∈ p)) && !decide (a ∈ q)) = (l.filter fun z => !decide (z ∈ p)).filter fun z => !decide (z ∈ q) := fun l => by
    rw [List.filter_filter]
    apply List.filter_congr
    intro z _
    exact Bool.and_comm _ _
  rw [sw, sw, h]
def runL (lots : List (List Int)) (run : List Int) (o : List Int) : List Int := run.foldl (fun o d => frontF o (lots.getD d.toNat [])) o
theorem out_run (p : List Int) (lots : List (List Int)) : ∀ (run : List Int) {x y : List Int}, outF p x = outF p y → outF p (runL lots run x) = outF p (runL lots run y)
  | [], x, y, h => h
  | d :: run, x, y, h => out_run p lots run (out_step _ h)
theorem lev_nodup (m : Nat) : ∀ t, (lev m t).Nodup
  | 0 => List.nodup_cons.mpr ⟨List.not_mem_nil, List.nodup_nil⟩
  | t + 1 => by
    show List.Pairwise _ _
    unfold lev
    rw [List.pairwise_flatMap]
    refine ⟨fun row hr => ?_, ?_⟩
    · rw [List.pairwise_map]
      exact ((ups_nodup m).filter _).imp fun {a b} h z => h (by simpa using z)
    · exact (lev_nodup m t).imp_of_mem fun {a b} ha hb h x hx y hy e => by
        obtain ⟨u, _, rfl⟩ := List.mem_map.mp hx
        obtain ⟨v, _, rfl⟩ := List.mem_map.mp hy
        have hl : a.length = b.length := by rw [(lev_row m t a ha).1, (lev_row m t b hb).1]
        exact h (List.append_inj_left e hl)
theorem rowsF_nodup (m : Nat) : ∀ t, (rowsF m t).Nodup
  | 0 => List.nodup_cons.mpr ⟨List.not_mem_nil, List.nodup_nil⟩
  | t + 1 => by
    show (rowsF m t ++ lev m (t + 1)).Nodup
    rw [List.nodup_append]
    refine ⟨rowsF_nodup m t, lev_nodup m (t + 1), fun a ha b hb e => ?_⟩
    have h1 := (rowsF_mem m t a ha).1
    have h2 := (lev_row m (t + 1) b hb).1
    rw [e] at h1
    omega
theorem orders_nodup (n : Nat) : (orders n).Nodup := (rowsF_nodup n n).filter _
theorem frn_get {n : Nat} {lots : List (List Int)} (hl : ∀ l ∈ lots, LotOk n l) : ∀ (run : List Int) (i : Nat) (hi : i < (orders n).length), (∀ d ∈ run, 0 ≤ d ∧ d < lots.length) → ∃ (j : Nat) (hj : j < (orders n).length), goes (fTab n lots) run i = j ∧ (orders n)[j] = runL lots run (orders n)[i]
  | [], i, hi, _ => ⟨i, hi, rfl, rfl⟩
  | d :: run, i, hi, hr => by
    have hd := hr d List.mem_cons_self
    have hk : d.toNat < lots.length := by omega
    have hm : lots[d.toNat] ∈ lots := List.getElem_mem hk
    have hlo := hl _ hm
    have hmem := front_mem (List.getElem_mem hi) hlo.1 hlo.2.2
    have hj := List.idxOf_lt_length_iff.mpr hmem
    have e1 : act (fTab n lots) d i = (((orders n).idxOf (frontF (orders n)[i] lots[d.toNat]) : Nat) : Int) := by
      unfold act fTab
      simp [hk, hi]
    obtain ⟨j, hj', k1, k2⟩ := frn_get hl run _ hj fun z hz => hr z (List.mem_cons_of_mem _ hz)
    refine ⟨j, hj', ?_, ?_⟩
    · show goes (fTab n lots) run (act (fTab n lots) d i) = j
      rw [e1]; exact k1
    · rw [k2, List.getElem_idxOf]
      show runL lots run (frontF (orders n)[i] lots[d.toNat]) = runL lots run (frontF (orders n)[i] (lots.getD d.toNat []))
      have : lots.getD d.toNat [] = lots[d.toNat] := by simp [hk]
      rw [this]
theorem frn_last {n : Nat} {lots : List (List Int)} (hl : ∀ l ∈ lots, LotOk n l) : OnlyLast (orders n).length (fTab n lots) := by
  intro d run b d0 d1 hr b0 b1
  have hll : (fTab n lots).length = lots.length := by unfold fTab; simp
  obtain ⟨i, rfl, hi⟩ : ∃ i : Nat, b = i ∧ i < (orders n).length := ⟨b.toNat, by omega, by omega⟩
  have hd : 0 ≤ d ∧ d < lots.length := by omega
  have hr' : ∀ z ∈ run, 0 ≤ z ∧ z < (lots.length : Int) := fun z hz => by have := hr z hz; omega
  have hr2 : ∀ z ∈ run ++ [d], 0 ≤ z ∧ z < (lots.length : Int) := fun z hz => (List.mem_append.mp hz).elim (hr' z) fun q => by rw [List.mem_singleton.mp q]; exact hd
  obtain ⟨j, hj, k1, k2⟩ := frn_get hl (d :: (run ++ [d])) i hi fun z hz => (List.mem_cons.mp hz).elim (fun q => by rw [q]; exact hd) (hr2 z)
  obtain ⟨j', hj', m1, m2⟩ := frn_get hl (run ++ [d]) i hi hr2
  rw [k1, m1]
  have key : runL lots (d :: (run ++ [d])) (orders n)[i] = runL lots (run ++ [d]) (orders n)[i] := by
    have a1 : ∀ x, runL lots (run ++ [d]) x = frontF (runL lots run x) (lots.getD d.toNat []) := fun x => by
      unfold runL
      rw [List.foldl_append]
      rfl
    show runL lots (run ++ [d]) (frontF (orders n)[i] (lots.getD d.toNat [])) = _
    rw [a1, a1]
    have := out_run (lots.getD d.toNat []) lots run (out_front (lots.getD d.toNat []) (orders n)[i])
    unfold frontF
    show _ ++ outF _ _ = _ ++ outF _ _
    unfold frontF at this
    rw [this]
  have he : (orders n)[j] = (orders n)[j'] := by rw [k2, m2, key]
  have hpw := List.pairwise_iff_getElem.mp (orders_nodup n)
  rcases Nat.lt_trichotomy j j' with q | q | q
  · exact absurd he (hpw j j' hj hj' q)
  · rw [q]
  · exact absurd he.symm (hpw j' j hj' hj q)
end H
namespace H
set_option autoImplicit false
open PySem L2 U
/-- the run of last times -/
def lastT : List Int → List Int
  | [] => []
  | x :: xs => if x ∈ xs then lastT xs else x :: lastT xs
theorem lastT_cons (x : Int) (xs : List Int) : lastT (x :: xs) = if x ∈ xs then lastT xs else x :: lastT xs := rfl
theorem lastT_mem : ∀ (xs : List Int) (y : Int), y ∈ lastT xs ↔ y ∈ xs
  | [], y => Iff.rfl
  | x :: xs, y => by
    rw [lastT_cons]
    split
    · rename_i h
      rw [lastT_mem xs y, List.mem_cons]
      exact ⟨.inr, fun z => z.elim (fun e => by rw [e]; exact h) id⟩
    · rw [List.mem_cons, lastT_mem xs y, List.mem_cons]
theorem lastT_nodup : ∀ xs : List Int, (lastT xs).Nodup
  | [] => List.nodup_nil
  | x :: xs => by
    rw [lastT_cons]
    split
    · exact lastT_nodup xs
    · rename_i h
      exact List.nodup_cons.mpr ⟨fun z => h ((lastT_mem xs x).mp z), lastT_nodup xs⟩
section
variable {many : Int} {rows : List (List Int)}
theorem mO_eq {r s : List Int} (h : U.mapOf many rows r = U.mapOf many rows s) {b : Int} (b0 : 0 ≤ b) (b1 : b < many) : goes rows r b = goes rows s b := by
  rw [← U.mapOf_get b0 b1, h, U.mapOf_get b0 b1]
theorem mO_ext {r s : List Int} (h : ∀ b, 0 ≤ b → b < many → goes rows r b = goes rows s b) : U.mapOf many rows r = U.mapOf many rows s := by
  unfold U.mapOf
  refine List.map_congr_left fun b hb => ?_
  have := ups_mem hb
  exact h b this.1 (by omega)
theorem pln_one (hp : plainB many rows = true) {a : List Int} {d : Int} (ha : a.Nodup) (hr : RunOk rows a) (hd : 0 ≤ d ∧ d < rows.length) (hn : d ∉ a) : U.mapOf many rows (d :: (a ++ [d])) = U.mapOf many rows (a ++ [d]) := by
  have hlen : a.length ≤ rows.length - 1 := by
    have hc : (d :: a).Nodup := List.nodup_cons.mpr ⟨hn, ha⟩
    have := len_le_of_sub hc (l' := ups rows.length) fun x hx => by
      have hx' : 0 ≤ x ∧ x < rows.length := by
        rcases List.mem_cons.mp hx with q | q
        · rw [q]; exact hd
        · exact hr x q
      unfold ups
      exact List.mem_map.mpr ⟨x.toNat, List.mem_range.mpr (by omega), by omega⟩
    rw [ups_len, List.length_cons] at this
    omega
  have hmem : a ∈ rowsF rows.length (rows.length - 1) := by
    have key : ∀ (m t t' : Nat), t ≤ t' → ∀ r ∈ rowsF m t, r ∈ rowsF m t' := by
      intro m t t' htt r h
      induction t' with
      | zero => have : t = 0 := by omega
                subst this; exact h
      | succ t' ih =>
        by_cases q : t = t' + 1
        · subst q; exact h
        · exact List.mem_append_left _ (ih (by omega))
    exact key _ _ _ hlen a (rowsF_lev _ _ a (lev_mem _ _ a rfl ha fun z hz => hr z hz))
  have h1 := List.all_eq_true.mp hp a hmem
  have hdu : d ∈ ups rows.length := by
    unfold ups
    exact List.mem_map.mpr ⟨d.toNat, List.mem_range.mpr (by omega), by omega⟩
  have h2 := List.all_eq_true.mp h1 d hdu
  unfold plain1 at h2
  simp only [Bool.or_eq_true, decide_eq_true_eq] at h2
  exact h2.resolve_left hn
theorem pln_lastT (S : SysOk many rows) (hp : plainB many rows = true) : ∀ (w : List Int) (b : Int), RunOk rows w → 0 ≤ b → b < many → goes rows w b = goes rows (lastT w) b
  | [], b, _, _, _ => rfl
  | x :: w, b, hr, b0, b1 => by
    have hx := hr x List.mem_cons_self
    have hr' : RunOk rows w := fun z hz => hr z (List.mem_cons_of_mem _ hz)
    have ha := act_rg S hx.1 hx.2 b0 b1
    have ih := pln_lastT S hp w (act rows x b) hr' ha.1 ha.2
    show goes rows w (act rows x b) = _
    rw [ih]
    rw [lastT_cons]
    split
    · rename_i hm
      have hm2 := (lastT_mem w x).mpr hm
      obtain ⟨a, c, e, hna⟩ : ∃ a c, lastT w = a ++ x :: c ∧ x ∉ a := by
        obtain ⟨a, c, e⟩ := List.append_of_mem hm2
        refine ⟨a, c, e, fun z => ?_⟩
        have := lastT_nodup w
        rw [e, List.nodup_append] at this
        exact this.2.2 x z x List.mem_cons_self rfl
      have hrl : RunOk rows (lastT w) := fun z hz => hr' z ((lastT_mem w z).mp hz)
      have hnd := lastT_nodup w
      rw [e] at hrl hnd ⊢
      have hra : RunOk rows a := fun z hz => hrl z (List.mem_append_left _ hz)
      have hone := mO_eq (pln_one hp (List.nodup_append.mp hnd).1 hra hx hna) b0 b1
      have e1 : a ++ x :: c = (a ++ [x]) ++ c := by simp
      rw [e1, goes_app, goes_app rows (a ++ [x]) c b]
      show goes rows c (goes rows (x :: (a ++ [x])) b) = _
      rw [hone]
    · rfl
theorem pln_last (S : SysOk many rows) (hp : plainB many rows = true) : OnlyLast many rows := by
  intro d run b d0 d1 hr b0 b1
  have hd : RunOk rows [d] := fun z hz => by rw [List.mem_singleton.mp hz]; exact ⟨d0, d1⟩
  have h1 : RunOk rows (run ++ [d]) := fun z hz => (List.mem_append.mp hz).elim (hr z) (hd z)
  have h2 : RunOk rows (d :: (run ++ [d])) := fun z hz => (List.mem_cons.mp hz).elim (fun q => by rw [q]; exact ⟨d0, d1⟩) (h1 z)
  rw [pln_lastT S hp _ b h2 b0 b1, pln_lastT S hp _ b h1 b0 b1]
  have : lastT (d :: (run ++ [d])) = lastT (run ++ [d]) := by
    rw [lastT_cons, if_pos (by simp)]
  rw [this]
theorem Drw.last (h : Drw many rows) : OnlyLast many rows := by
  have S := h.sys
  obtain ⟨d, _, _, _⟩ := h
  cases d with
  | set s => exact set_last s
  | frn hn hl => exact frn_last hl
  | pln S' hp => exact pln_last S' hp
end
end H
namespace H
set_option autoImplicit false
open PySem L2 U
def b_done : SF :=
    (sSeq (sFor (fIt (fVar 1)) (gN 3)
    (sSet 2 (op2 dIx (.val (op2 dIx (.val (op2 dIx (.var 0) (.val (fC (.int 1))))) (.var 3))) (.var 2))))
    (sRet (fMv 2)))
def d_done : FD := runF 3 4 false b_done
def b_run_map : SF :=
    (sRet (opN dTuple [(.val (fLc [2] (fRg rg1 [(.val (op2 dIx (.var 0) (.val (fC (.int 0)))))]) (gN 2) (tAll []) (fCall d_done [(.var 0), (.var 1), (.var 2)])))]))
def d_run_map : FD := runF 2 3 false b_run_map
def b_ahead_map : SF :=
    (sRet (opN dTuple [(.val (fLc [3] (fIt (op2 dIx (.val (op2 dIx (.var 0) (.val (fC (.int 1))))) (.var 2))) (gN 3) (tAll []) (op2 dIx (.var 1) (.var 3))))]))
def d_ahead_map : FD := runF 3 4 false b_ahead_map
def b_swallowed : SF :=
    (sSeq (sSet 2 (fCall d_run_map [(.var 0), (.var 1)]))
    (sRet (opN dTuple [(.val (fLc [3] (fRg rg1 [(.val (opN dLen [(.val (op2 dIx (.var 0) (.val (fC (.int 1)))))]))]) (gN 3) (tOp2 dEq (.val (fCall d_ahead_map [(.var 0), (.var 2), (.var 3)])) (.var 2)) (fVar 3)))])))
def d_swallowed : FD := runF 2 4 false b_swallowed
def b_closure : SF :=
    (sRet (fCall d_swallowed [(.var 0), (.var 1)]))
def d_closure : FD := runF 2 2 false b_closure
theorem q_run : d_run_map = fRunMap := rfl
/-- told behind a deed's row -/
def thru (told row : List Int) : List Int := row.map fun b => told.getD b.toNat 0
def swal (many : Int) (rows : List (List Int)) (run : List Int) : List Int := (ups rows.length).filter fun d => decide (thru (U.mapOf many rows run) (rows.getD d.toNat []) = U.mapOf many rows run)
section
variable {many : Int} {rows : List (List Int)}
theorem ahead_ok (S : SysOk many rows) {told : List Int} (ht : (told.length : Int) = many) {d : Int} (d0 : 0 ≤ d) (d1 : d < rows.length) : d_ahead_map [sysD many rows, iT told, .int d] = .ok (false, iT (thru told (rows.getD d.toNat [])), []) := by
  have hr := v_ixR d0 d1
  have hrm := row_mem d0 d1
  have hrl := S.len _ hrm
  have hrg := S.rg _ hrm
  generalize rows.getD d.toNat [] = row at hr hrl hrg
  have hfi : fIt (op2 dIx (.val (op2 dIx (.var 0) (.val (fC (.int 1))))) (.var 2)) [some (false, sysD many rows), some (false, iT told), some (false, .int d), none] = .ok (row.map .int, [some (false, sysD many rows), some (false, iT told), some (false, .int d), none]) := by
    simp [hr]
    simp [iT]
  have hc := fLc_map (vs := [3]) (t := gN 3) (f := op2 dIx (.var 1) (.var 3)) (fun x => match x with | .int b => .int (told.getD b.toNat 0) | _ => .non) hfi rfl (by rw [List.length_map]; have := S.hi; omega) fun x hx => by
    obtain ⟨b, hb, rfl⟩ := List.mem_map.mp hx
    have hb := hrg b hb
    have hi := v_ixI (r := told) hb.1 (by omega)
    refine ⟨_, false, [some (false, sysD many rows), some (false, iT told), some (false, .int d), some (false, .int b)], rfl, ?_, rfl⟩
    show op2 _ _ _ _ = O.ok (false, D.int (told.getD b.toNat 0), _)
    generalize told.getD b.toNat 0 = v at hi
    simp [wipeE, hi]
  have e : (row.map D.int).map (fun x => match x with | .int b => D.int (told.getD b.toNat 0) | _ => .non) = (thru told row).map .int := by
    unfold thru; rw [List.map_map, List.map_map]; rfl
  rw [e] at hc
  unfold d_ahead_map b_ahead_map
  rw [run3]
  simp only [List.replicate]
  rw [r_ret, r_opN, r_evs1, r_pv, hc]
  rfl
theorem swallowed_ok (S : SysOk many rows) {run : List Int} (hr : RunOk rows run) : d_swallowed [sysD many rows, iT run] = .ok (false, iT (swal many rows run), []) := by
  have hrm := runMap_ok S hr
  have htl : ((U.mapOf many rows run).length : Int) = many := by rw [U.mapOf_len]; have := S.lo; omega
  have hg := rg1_ok (j := (rows.length : Int)) (by omega) (by have := S.nr; omega)
  rw [Int.toNat_natCast] at hg
  have hfi : fRg rg1 [(.val (opN dLen [(.val (op2 dIx (.var 0) (.val (fC (.int 1)))))]))] [some (false, sysD many rows), some (false, iT run), some (false, iT (U.mapOf many rows run)), none] = .ok ((ups rows.length).map .int, [some (false, sysD many rows), some (false, iT run), some (false, iT (U.mapOf many rows run)), none]) := by
    have hl : dLen [.tup (rows.map iT)] = some (false, .int rows.length) := by rw [v_lenT, List.length_map]
    generalize (rows.length : Int) = nn at hg hl
    generalize hR : D.tup (rows.map iT) = R at hl
    have h1 := v_sys1 many rows
    rw [hR] at h1
    simp [h1, hl, hg, -v_sys1]
  have hc := fLc_filter (vs := [3]) (t := gN 3) (cs := tOp2 dEq (.val (fCall d_ahead_map [(.var 0), (.var 2), (.var 3)])) (.var 2)) (f := fVar 3) (fun x => match x with | .int d => decide (thru (U.mapOf many rows run) (rows.getD d.toNat []) = U.mapOf many rows run) | _ => false) id hfi rfl (by rw [List.length_map, ups_len]; have := S.nr; omega) fun x hx => by
    obtain ⟨d, hd, rfl⟩ := List.mem_map.mp hx
    have hd := ups_mem hd
    have ha := ahead_ok S htl hd.1 (by omega : d < rows.length)
    refine ⟨_, [some (false, sysD many rows), some (false, iT run), some (false, iT (U.mapOf many rows run)), some (false, .int d)], rfl, ?_, fun _ => rfl, fun _ => ⟨false, _, rfl, rfl⟩⟩
    show tOp2 _ _ _ _ = O.ok (decide (thru (U.mapOf many rows run) (rows.getD d.toNat []) = U.mapOf many rows run), _)
    have he := v_eqT (thru (U.mapOf many rows run) (rows.getD d.toNat [])) (U.mapOf many rows run)
    generalize thru (U.mapOf many rows run) (rows.getD d.toNat []) = th at ha he
    simp [wipeE, ha, he]
  have e : (((ups rows.length).map D.int).filter (fun x => match x with | .int d => decide (thru (U.mapOf many rows run) (rows.getD d.toNat []) = U.mapOf many rows run) | _ => false)).map id = (swal many rows run).map .int := by
    rw [List.map_id, List.filter_map]
    rfl
  rw [e] at hc
  unfold d_swallowed b_swallowed
  rw [run2]
  simp only [List.replicate]
  have e0 : sSet 2 (fCall d_run_map [(.var 0), (.var 1)]) [some (false, sysD many rows), some (false, iT run), none, none] = .ok (.nx, [some (false, sysD many rows), some (false, iT run), some (false, iT (U.mapOf many rows run)), none]) := by
    simp [q_run, hrm]
  rw [r_seq, e0, O.bind_ok]
  show finF false (sRet _ _) = _
  rw [r_ret, r_opN, r_evs1, r_pv, hc]
  rfl
theorem closure_ok (S : SysOk many rows) {run : List Int} (hr : RunOk rows run) : d_closure [sysD many rows, iT run] = .ok (false, iT (swal many rows run), []) := by
  have h := swallowed_ok S hr
  unfold d_closure b_closure
  rw [run2]
  simp [h, finF, outs]
end
end H
namespace H
set_option autoImplicit false
open PySem L2 U
section
variable {many : Int} {rows : List (List Int)}
/-! ### what is swallowed, in plain words -/
theorem row_eq (S : SysOk many rows) {d : Int} (d0 : 0 ≤ d) (d1 : d < rows.length) : rows.getD d.toNat [] = (ups many.toNat).map (act rows d) := by
  have hl := S.len _ (row_mem d0 d1)
  apply List.ext_getElem?
  intro j
  unfold act
  generalize rows.getD d.toNat [] = row at hl
  unfold ups
  by_cases h : j < many.toNat
  · have h2 : j < row.length := by omega
    simp [h, h2]
  · rw [List.getElem?_eq_none (by omega), List.getElem?_eq_none (by simp; omega)]
theorem thru_eq (S : SysOk many rows) {run : List Int} {d : Int} (d0 : 0 ≤ d) (d1 : d < rows.length) : thru (U.mapOf many rows run) (rows.getD d.toNat []) = U.mapOf many rows (d :: run) := by
  unfold thru
  rw [row_eq S d0 d1, List.map_map]
  unfold U.mapOf
  refine List.map_congr_left fun b hb => ?_
  have hb := ups_mem hb
  have ha := act_rg S d0 d1 hb.1 (by omega : b < many)
  show ((ups many.toNat).map (goes rows run)).getD (act rows d b).toNat 0 = goes rows (d :: run) b
  exact U.mapOf_get ha.1 ha.2
/-- a deed ahead of a run changes nothing -/
def Sw (many : Int) (rows : List (List Int)) (run : List Int) (d : Int) : Prop := ∀ b, 0 ≤ b → b < many → goes rows run (act rows d b) = goes rows run b
theorem swal_mem (S : SysOk many rows) {run : List Int} {d : Int} : d ∈ swal many rows run ↔ (0 ≤ d ∧ d < rows.length) ∧ Sw many rows run d := by
  unfold swal
  rw [List.mem_filter, decide_eq_true_eq]
  constructor
  · rintro ⟨h1, h2⟩
    have h1 := ups_mem h1
    rw [thru_eq S h1.1 h1.2] at h2
    exact ⟨h1, fun b b0 b1 => mO_eq h2 b0 b1⟩
  · rintro ⟨h1, h2⟩
    refine ⟨?_, ?_⟩
    · unfold ups
      exact List.mem_map.mpr ⟨d.toNat, List.mem_range.mpr (by omega), by omega⟩
    · rw [thru_eq S h1.1 h1.2]
      exact mO_ext fun b b0 b1 => h2 b b0 b1
theorem swal_congr (S : SysOk many rows) {r s : List Int} (h : ∀ d : Int, 0 ≤ d → d < rows.length → (Sw many rows r d ↔ Sw many rows s d)) : swal many rows r = swal many rows s := by
  unfold swal
  refine List.filter_congr fun d hd => ?_
  have hd := ups_mem hd
  rw [thru_eq S hd.1 hd.2, thru_eq S hd.1 hd.2]
  have := h d hd.1 hd.2
  by_cases k : Sw many rows r d
  · have k2 := this.mp k
    rw [decide_eq_true (mO_ext fun b b0 b1 => k b b0 b1), decide_eq_true (mO_ext fun b b0 b1 => k2 b b0 b1)]
  · have k2 : ¬ Sw many rows s d := fun z => k (this.mpr z)
    rw [decide_eq_false fun z => k fun b b0 b1 => mO_eq z b0 b1, decide_eq_false fun z => k2 fun b b0 b1 => mO_eq z b0 b1]
theorem swal_run (S : SysOk many rows) (run : List Int) : RunOk rows (swal many rows run) := fun z hz => ((swal_mem S).mp hz).1
theorem sw_in (S : SysOk many rows) (L : OnlyLast many rows) {run : List Int} (hr : RunOk rows run) {d : Int} (h : d ∈ run) : Sw many rows run d := by
  intro b b0 b1
  obtain ⟨a, c, rfl⟩ := List.append_of_mem h
  have hd := hr d h
  have ha : RunOk rows a := fun z hz => hr z (List.mem_append_left _ hz)
  have e1 : a ++ d :: c = (a ++ [d]) ++ c := by simp
  have hb := act_rg S hd.1 hd.2 b0 b1
  rw [e1, goes_app, goes_app rows (a ++ [d]) c b]
  show goes rows c (goes rows (d :: (a ++ [d])) b) = _
  rw [L d a b hd.1 hd.2 ha b0 b1]
theorem sw_all (S : SysOk many rows) {run : List Int} : ∀ {w : List Int} {b : Int}, RunOk rows w → (∀ z ∈ w, Sw many rows run z) → 0 ≤ b → b < many → goes rows run (goes rows w b) = goes rows run b
  | [], b, _, _, _, _ => rfl
  | z :: w, b, hw, h, b0, b1 => by
    have hz := hw z List.mem_cons_self
    have ha := act_rg S hz.1 hz.2 b0 b1
    show goes rows run (goes rows w (act rows z b)) = _
    rw [sw_all S (w := w) (fun y hy => hw y (List.mem_cons_of_mem _ hy)) (fun y hy => h y (List.mem_cons_of_mem _ hy)) ha.1 ha.2]
    exact h z List.mem_cons_self b b0 b1
theorem sw_mono (S : SysOk many rows) {w w' : List Int} (hw : RunOk rows w) (h : ∀ z ∈ w, Sw many rows w' z) {d : Int} (d0 : 0 ≤ d) (d1 : d < rows.length) (k : Sw many rows w d) : Sw many rows w' d := by
  intro b b0 b1
  have ha := act_rg S d0 d1 b0 b1
  rw [← sw_all S hw h ha.1 ha.2, ← sw_all S hw h b0 b1, k b b0 b1]
theorem swal_same (S : SysOk many rows) {w w' : List Int} (hw : RunOk rows w) (hw' : RunOk rows w') (h : ∀ z ∈ w, Sw many rows w' z) (h' : ∀ z ∈ w', Sw many rows w z) : swal many rows w = swal many rows w' :=
  swal_congr S fun _ d0 d1 => ⟨sw_mono S hw h d0 d1, sw_mono S hw' h' d0 d1⟩
theorem swal_like (S : SysOk many rows) (L : OnlyLast many rows) {w w' : List Int} (hw : RunOk rows w) (h : ∀ z, z ∈ w ↔ z ∈ w') : swal many rows w = swal many rows w' := by
  have hw' : RunOk rows w' := fun z hz => hw z ((h z).mpr hz)
  exact swal_same S hw hw' (fun z hz => sw_in S L hw' ((h z).mp hz)) (fun z hz => sw_in S L hw ((h z).mpr hz))
theorem swal_sub (S : SysOk many rows) (L : OnlyLast many rows) {w : List Int} (hw : RunOk rows w) {z : Int} (h : z ∈ w) : z ∈ swal many rows w := (swal_mem S).mpr ⟨hw z h, sw_in S L hw h⟩
theorem swal_idem (S : SysOk many rows) (L : OnlyLast many rows) {w : List Int} (hw : RunOk rows w) : swal many rows (swal many rows w) = swal many rows w :=
  swal_same S (swal_run S w) hw (fun z hz => ((swal_mem S).mp hz).2) fun z hz => sw_in S L (swal_run S w) (swal_sub S L hw hz)
theorem swal_mono (S : SysOk many rows) (L : OnlyLast many rows) {w w' : List Int} (hw : RunOk rows w) (hw' : RunOk rows w') (h : ∀ z ∈ w, z ∈ w') {z : Int} (k : z ∈ swal many rows w) : z ∈ swal many rows w' := by
  have k := (swal_mem S).mp k
  exact (swal_mem S).mpr ⟨k.1, sw_mono S hw (fun y hy => sw_in S L hw' (h y hy)) k.1.1 k.1.2 k.2⟩
theorem swal_join (S : SysOk many rows) (L : OnlyLast many rows) {u v w x : List Int} (hu : RunOk rows u) (hv : RunOk rows v) (hw : ∀ z, z ∈ w ↔ z ∈ u ∨ z ∈ v) (hx : ∀ z, z ∈ x ↔ z ∈ swal many rows u ∨ z ∈ swal many rows v) : swal many rows x = swal many rows w := by
  have rw' : RunOk rows w := fun z hz => ((hw z).mp hz).elim (hu z) (hv z)
  have rx : RunOk rows x := fun z hz => ((hx z).mp hz).elim (swal_run S u z) (swal_run S v z)
  refine swal_same S rx rw' (fun z hz => ?_) fun z hz => sw_in S L rx ((hx z).mpr (((hw z).mp hz).imp (swal_sub S L hu) (swal_sub S L hv)))
  rcases (hx z).mp hz with q | q
  · exact ((swal_mem S).mp (swal_mono S L hu rw' (fun y hy => (hw y).mpr (.inl hy)) q)).2
  · exact ((swal_mem S).mp (swal_mono S L hv rw' (fun y hy => (hw y).mpr (.inr hy)) q)).2
end
end H
namespace H
set_option autoImplicit false
open PySem L2 U
section
variable {vs : List Nat} {fi : IF} {t : Tg} {cs : TF} {f : EF} {ρ ρ1 : En} {ds : List D}
/-- a box that is drawn from at each turn, by the test or by the item -/
theorem fLc_boxF {ib : Nat} (P : D → Prop) (hib : ib ∉ vs) (hfi : fi ρ = .ok (ds, ρ1)) (hno : noOwn ρ1 vs = true) (hlen : ds.length ≤ 16777216) {es0 : List D} (h0 : ρ1[ib]? = some (some (true, .lst es0))) (hb : BxI es0)
    (hs : ∀ d ∈ ds, ∀ es, BxI es → ∃ ρ2 bv ρ3 es', t d (wipeE (ρ1.set ib (some (true, .lst es))) vs) = some ρ2 ∧ cs ρ2 = .ok (bv, ρ3) ∧ BxI es' ∧ (bv = false → wipeE ρ3 vs = wipeE (ρ1.set ib (some (true, .lst es'))) vs) ∧
      (bv = true → ∃ fr x ρ4 es2, f ρ3 = .ok (fr, x, ρ4) ∧ P x ∧ BxI es2 ∧ wipeE ρ4 vs = wipeE (ρ1.set ib (some (true, .lst es2))) vs)) :
    ∃ l es', fLc vs fi t cs f ρ = .ok (true, .lst l, ρ1.set ib (some (true, .lst es'))) ∧ l.length ≤ ds.length ∧ (∀ x ∈ l, P x) ∧ BxI es' := by
  have hset : ρ1.set ib (some (true, .lst es0)) = ρ1 := by
    apply List.ext_getElem?
    intro j
    by_cases e : ib = j
    · subst e
      have hl : ib < ρ1.length := by
        by_cases k : ib < ρ1.length
        · exact k
        · rw [List.getElem?_eq_none (by omega)] at h0; cases h0
      rw [List.getElem?_set_self hl, h0]
    · rw [List.getElem?_set_ne e]
  obtain ⟨w, e, l, es', q1, q2, q3, q4⟩ := O.wp_ex (o := fLc vs fi t cs f ρ) (Q := fun w => ∃ l es', w = (true, .lst l, ρ1.set ib (some (true, .lst es'))) ∧ l.length ≤ ds.length ∧ (∀ x ∈ l, P x) ∧ BxI es') (by
    refine fLc_wp (fun acc l ρ' => (∃ es, BxI es ∧ wipeE ρ' vs = wipeE (ρ1.set ib (some (true, .lst es))) vs) ∧ (∀ d ∈ l, d ∈ ds) ∧ acc.length + l.length ≤ ds.length ∧ ∀ x ∈ acc, P x) (O.wp_of hfi ⟨hno, hlen, ⟨⟨es0, hb, by rw [hset]⟩, fun _ h => h, by simp, fun x hx => nomatch hx⟩, fun l ρ2 h => ?_⟩) fun acc d l ρ' h => ?_
    · obtain ⟨⟨es, h1, h2⟩, _, h3, h4⟩ := h
      exact ⟨l, es, by rw [back_set hib h2], by simpa using h3, h4, h1⟩
    · obtain ⟨⟨es, h1, h2⟩, h3, h4, h5⟩ := h
      obtain ⟨ρ2, bv, ρ3, es', e1, e2, e3, e4, e5⟩ := hs d (h3 d List.mem_cons_self) es h1
      rw [h2]
      refine ⟨ρ2, e1, O.wp_of e2 ?_⟩
      dsimp only
      cases bv with
      | false =>
        rw [if_neg Bool.false_ne_true]
        exact ⟨⟨es', e3, e4 rfl⟩, fun x hx => h3 x (List.mem_cons_of_mem _ hx), by simp at h4 ⊢; omega, h5⟩
      | true =>
        rw [if_pos rfl]
        obtain ⟨fr, x, ρ4, es2, k1, k2, k3, k4⟩ := e5 rfl
        refine O.wp_of k1 ⟨⟨es2, k3, k4⟩, fun x hx => h3 x (List.mem_cons_of_mem _ hx), by simp at h4 ⊢; omega, fun y hy => ?_⟩
        rcases List.mem_append.mp hy with z | z
        · exact h5 y z
        · rw [List.mem_singleton.mp z]; exact k2)
  exact ⟨l, es', by rw [e, q1], q2, q3, q4⟩
end
theorem sortset_ok {run : List Int} (hl : run.length ≤ 60) : dSortSet [iT run] = some (true, .lst ((sortI (nubI run)).map .int)) := by
  have hl2 := nubI_len run
  unfold dSortSet iT
  dsimp only
  rw [intsD_of]
  dsimp only [Option.bind]
  rw [if_pos ⟨by omega, by omega⟩]
theorem int_mem (z : Int) (l : List Int) : D.int z ∈ l.map D.int ↔ z ∈ l := by
  constructor
  · intro h
    obtain ⟨y, hy, e⟩ := List.mem_map.mp h
    cases e
    exact hy
  · exact fun h => List.mem_map.mpr ⟨z, h, rfl⟩
theorem addT_ok {r s : List Int} (h : r.length + s.length ≤ 10000) : dAdd (iT r) (iT s) = some (false, iT (r ++ s)) := by
  unfold dAdd iT
  dsimp only
  rw [if_pos (by rw [List.length_map, List.length_map]; omega), List.map_append]
theorem addL_ok {r s : List D} (h : r.length + s.length ≤ 10000) : dAdd (.lst r) (.lst s) = some (true, .lst (r ++ s)) := by
  unfold dAdd
  dsimp only
  rw [if_pos (by omega)]
theorem swal_len (many : Int) (rows : List (List Int)) (run : List Int) : (swal many rows run).length ≤ rows.length := by
  unfold swal
  have := List.length_filter_le (fun d => decide (thru (U.mapOf many rows run) (rows.getD d.toNat []) = U.mapOf many rows run)) (ups rows.length)
  rw [ups_len] at this
  exact this
@[simp] theorem listT_ok (r : List Int) : dList [iT r] = some (true, .lst (r.map .int)) := rfl
@[simp] theorem tupL_ok (r : List Int) : dTuple [.lst (r.map .int)] = some (false, iT r) := rfl
@[simp] theorem isiT (r : List Int) : dIsi "tuple" (iT r) = some (false, .bl true) := rfl
@[simp] theorem neL0 : dNe (.lst []) (.lst []) = some false := rfl
theorem neT0 (r : List Int) : dNe (iT r) (.tup []) = some (decide (r ≠ [])) := by
  have := v_eqT r []
  unfold dEq at this
  unfold dNe
  have e : (D.tup []) = iT [] := rfl
  rw [e]
  by_cases h : (iT r).good && (iT []).good
  · rw [if_pos h] at this ⊢
    have this := Option.some.inj this
    rw [this]
    by_cases k : r = [] <;> simp [k]
  · rw [if_neg h] at this; cases this
/-- what of one lot isn't in another -/
def lackP (told : List Int) : D → Bool
  | .int d => !decide (d ∈ told)
  | _ => false
theorem lack_filter (lot told : List Int) (h : ∀ z ∈ lot, z ∈ told) (g : D → D) : ((lot.map D.int).filter (lackP told)).map g = [] := by
  rw [List.filter_map]
  have : lot.filter (lackP told ∘ D.int) = [] := by
    rw [List.filter_eq_nil_iff]
    intro z hz
    simp [lackP, h z hz]
  rw [this]
  rfl
end H
namespace H
set_option autoImplicit false
open PySem L2 U
def b_numbered : SF :=
    (sSeq (sSet 1 fDic0)
    (sSeq (sFor (fIt (fVar 0)) (gN 2)
    (sExp (fSetd 1 [(fVar 2), (opN dLen [(.var 1)])])))
    (sRet (opN dTuple [(.val (fLc [2] (fIt (fVar 0)) (gN 2) (tAll []) (op2 dIx (.var 1) (.var 2))))]))))
def d_numbered : FD := runF 1 3 false b_numbered
def b_met_look : SF :=
    (sRet (fCall d_numbered [(.val (fCall d_run_map [(.var 0), (.var 1)]))]))
def d_met_look : FD := runF 2 2 false b_met_look
def b_law_numbered : SF :=
    (sSeq (sSet 1 (fLst []))
    (sSeq (sFor (fIt (fVar 0)) (gN 2)
    (sIf (tOp2 dNotIn (.var 2) (.var 1))
    (sExp (fMut mApp 1 [(fVar 2)]))
    sNil))
    (sRet (opN dTuple [(.val (fLc [2] (fIt (fVar 0)) (gN 2) (tAll []) (fIndex (.var 1) (.var 2))))]))))
def d_law_numbered : FD := runF 1 3 false b_law_numbered
/-! ### rows numbered as their entries are met -/
def nubS (acc : List Int) (x : Int) : List Int := if x ∈ acc then acc else acc ++ [x]
def nubF (acc r : List Int) : List Int := r.foldl nubS acc
def numR (r : List Int) : List Int := r.map fun x => ((nubF [] r).idxOf x : Int)
theorem nubS_le {acc : List Int} {x y : Int} (h : y ∈ acc) : y ∈ nubS acc x := by
  unfold nubS
  split
  · exact h
  · exact List.mem_append_left _ h
theorem nubS_self (acc : List Int) (x : Int) : x ∈ nubS acc x := by
  unfold nubS
  split
  · assumption
  · simp
theorem nubF_le : ∀ {r acc : List Int} {y : Int}, y ∈ acc → y ∈ nubF acc r
  | [], _, _, h => h
  | x :: r, acc, y, h => nubF_le (r := r) (nubS_le h)
theorem nubF_in : ∀ {r acc : List Int} {y : Int}, y ∈ r → y ∈ nubF acc r
  | x :: r, acc, y, h => by
    rcases List.mem_cons.mp h with e | e
    · subst e; exact nubF_le (r := r) (nubS_self acc y)
    · exact nubF_in (r := r) e
theorem nubF_len : ∀ (r acc : List Int), (nubF acc r).length ≤ acc.length + r.length
  | [], acc => Nat.le_refl _
  | x :: r, acc => by
    have h := nubF_len r (nubS acc x)
    have h2 : (nubS acc x).length ≤ acc.length + 1 := by
      unfold nubS
      split <;> simp
    show (nubF (nubS acc x) r).length ≤ _
    rw [List.length_cons]
    omega
theorem nubF_map {g : Int → Int} : ∀ (r acc : List Int), (∀ x ∈ acc ++ r, ∀ y ∈ acc ++ r, g x = g y → x = y) → nubF (acc.map g) (r.map g) = (nubF acc r).map g
  | [], acc, _ => rfl
  | x :: r, acc, hi => by
    have hx : x ∈ acc ++ x :: r := by simp
    have e : nubS (acc.map g) (g x) = (nubS acc x).map g := by
      unfold nubS
      by_cases h : x ∈ acc
      · rw [if_pos h, if_pos (List.mem_map.mpr ⟨x, h, rfl⟩)]
      · rw [if_neg h, if_neg (fun z => by
          obtain ⟨y, hy, ey⟩ := List.mem_map.mp z
          exact h (hi y (List.mem_append_left _ hy) x hx ey ▸ hy)), List.map_append]
        rfl
    show nubF (nubS (acc.map g) (g x)) (r.map g) = (nubF (nubS acc x) r).map g
    rw [e]
    refine nubF_map r (nubS acc x) fun y hy z hz => hi y ?_ z ?_
    · rcases List.mem_append.mp hy with q | q
      · unfold nubS at q
        split at q
        · exact List.mem_append_left _ q
        · rcases List.mem_append.mp q with q | q
          · exact List.mem_append_left _ q
          · rw [List.mem_singleton.mp q]; exact hx
      · exact List.mem_append_right _ (List.mem_cons_of_mem _ q)
    · rcases List.mem_append.mp hz with q | q
      · unfold nubS at q
        split at q
        · exact List.mem_append_left _ q
        · rcases List.mem_append.mp q with q | q
          · exact List.mem_append_left _ q
          · rw [List.mem_singleton.mp q]; exact hx
      · exact List.mem_append_right _ (List.mem_cons_of_mem _ q)
theorem idx_map {g : Int → Int} : ∀ (m : List Int) (x : Int), (∀ y ∈ m, g y = g x → y = x) → (m.map g).idxOf (g x) = m.idxOf x
  | [], _, _ => rfl
  | y :: m, x, h => by
    rw [List.map_cons, List.idxOf_cons, List.idxOf_cons, idx_map m x fun z hz => h z (List.mem_cons_of_mem _ hz)]
    by_cases e : y = x
    · subst e; simp
    · have : ¬ g y = g x := fun z => e (h y List.mem_cons_self z)
      rw [beq_eq_false_iff_ne.mpr this, beq_eq_false_iff_ne.mpr e]
theorem nubF_sub : ∀ {r acc : List Int} {y : Int}, y ∈ nubF acc r → y ∈ acc ∨ y ∈ r
  | [], _, _, h => .inl h
  | x :: r, acc, y, h => by
    rcases nubF_sub (r := r) (acc := nubS acc x) h with q | q
    · unfold nubS at q
      split at q
      · exact .inl q
      · rcases List.mem_append.mp q with q | q
        · exact .inl q
        · rw [List.mem_singleton.mp q]; exact .inr List.mem_cons_self
    · exact .inr (List.mem_cons_of_mem _ q)
theorem numR_inj {g : Int → Int} (r : List Int) (hi : ∀ x ∈ r, ∀ y ∈ r, g x = g y → x = y) : numR (r.map g) = numR r := by
  unfold numR
  have e := nubF_map (g := g) r [] (by simpa using hi)
  rw [List.map_nil] at e
  rw [e, List.map_map]
  refine List.map_congr_left fun x hx => ?_
  show (((nubF [] r).map g).idxOf (g x) : Int) = _
  rw [idx_map _ x fun y hy hg => hi y ((nubF_sub hy).resolve_left List.not_mem_nil) x hx hg]
/-! ### dicts whose keys are ints -/
theorem kd_int (m : List Int) (x : Int) : dKd (m.map D.int) (.int x) = true := by
  unfold dKd
  have : (m.map D.int).all D.isLf = true := by
    rw [List.all_eq_true]
    intro d hd
    obtain ⟨y, _, rfl⟩ := List.mem_map.mp hd
    rfl
  rw [this]
  rfl
theorem look_num : ∀ (m : List Int) (o : Nat) (x : Int), dLook (m.map D.int) ((List.range' o m.length).map fun (i : Nat) => D.int (i : Int)) (.int x) = if x ∈ m then some (.int ((o + m.idxOf x : Nat) : Int)) else none
  | [], _, _ => rfl
  | y :: m, o, x => by
    rw [List.length_cons, List.range'_succ, List.map_cons, List.map_cons]
    unfold dLook
    rw [look_num m (o + 1) x]
    by_cases e : y = x
    · subst e
      rw [if_pos rfl]
      simp
    · rw [if_neg (fun z => e (by
        have z : some (NestedKey.num y) = some (NestedKey.num x) := z
        injection z with z; injection z))]
      by_cases h : x ∈ m
      · rw [if_pos h, if_pos (List.mem_cons_of_mem _ h), List.idxOf_cons]
        have : (y == x) = false := by simpa using e
        rw [this]
        have e2 : o + 1 + m.idxOf x = o + (m.idxOf x + 1) := by omega
        rw [e2]
        rfl
      · rw [if_neg h, if_neg (fun z => (List.mem_cons.mp z).elim (fun q => e q.symm) h)]
theorem look_ups (m : List Int) (x : Int) : dLook (m.map D.int) ((ups m.length).map D.int) (.int x) = if x ∈ m then some (.int (m.idxOf x : Int)) else none := by
  have := look_num m 0 x
  rw [Nat.zero_add] at this
  rw [← this]
  unfold ups
  rw [List.range_eq_range', List.map_map]
  rfl
theorem has_int (m : List Int) (x : Int) : dHas (m.map D.int) (.int x) = decide (x ∈ m) := by
  unfold dHas
  rw [List.any_map]
  induction m with
  | nil => rfl
  | cons y m ih =>
    rw [List.any_cons, ih]
    by_cases e : y = x
    · subst e
      simp
    · have : ¬ (D.int y).nk = (D.int x).nk := fun z => e (by
        have z : some (NestedKey.num y) = some (NestedKey.num x) := z
        injection z with z; injection z)
      simp only [Function.comp, decide_eq_false this, Bool.false_or]
      have e' : ¬ x = y := fun z => e z.symm
      simp [e']
theorem ups_snoc (n : Nat) : ups (n + 1) = ups n ++ [(n : Int)] := by
  unfold ups
  rw [List.range_succ, List.map_append]
  rfl
theorem sto_new {m vs : List Int} {x y : Int} (h : x ∉ m) (hl : m.length < 16777216) : dSto (m.map D.int) (vs.map D.int) (.int x) (.int y) = some ((m ++ [x]).map D.int, (vs ++ [y]).map D.int) := by
  unfold dSto
  rw [kd_int, has_int, List.length_map, decide_eq_true hl, decide_eq_false h, List.map_append, List.map_append]
  rfl
theorem sto_some {m vs : List Int} {x y : Int} (hl : m.length < 16777216) : ∃ r, dSto (m.map D.int) (vs.map D.int) (.int x) (.int y) = some r := by
  unfold dSto
  rw [kd_int, List.length_map, decide_eq_true hl]
  exact ⟨_, rfl⟩
theorem numbered_ok {r : List Int} (hl : r.length ≤ 1000) : d_numbered [iT r] = .ok (false, iT (numR r), []) := by
  have step : ∀ (l acc : List Int) (x : Option D), acc.length + l.length ≤ 1000 → (forL (gN 2) (sExp (fSetd 1 [(fVar 2), (opN dLen [(.var 1)])])) (l.map .int) [some (false, iT r), some (true, .dic (acc.map .int) ((ups acc.length).map .int)), fz x]).wp fun w => w.1 = .nx ∧ ∃ x, w.2 = [some (false, iT r), some (true, .dic ((nubF acc l).map .int) ((ups (nubF acc l).length).map .int)), fz x] := by
    intro l acc x hl
    refine forL_wp (fun l' ρ => ∃ l2 acc2 x, l' = l2.map .int ∧ acc2.length + l2.length ≤ 1000 ∧ ρ = [some (false, iT r), some (true, .dic (acc2.map .int) ((ups acc2.length).map .int)), fz x] ∧ nubF acc2 l2 = nubF acc l) (fun d l' ρ hI => ?_) (fun ρ hI => ?_) _ _ ⟨l, acc, x, rfl, hl, rfl, rfl⟩
    · obtain ⟨l2, acc2, x, e, h1, rfl, h2⟩ := hI
      cases l2 with
      | nil => cases e
      | cons z l2 =>
        rw [List.map_cons] at e
        cases e
        rw [List.length_cons] at h1
        refine ⟨_, rfl, ?_⟩
        have hk := look_ups acc2 z
        by_cases hz : z ∈ acc2
        · rw [if_pos hz] at hk
          obtain ⟨w, hw⟩ := sto_some (m := acc2) (vs := ups acc2.length) (x := z) (y := (acc2.length : Int)) (by omega)
          refine O.wp_of (a := (.nx, [some (false, iT r), some (true, .dic (acc2.map .int) ((ups acc2.length).map .int)), some (false, .int z)])) (by simp [dLen, hk, hw]) ?_
          refine ⟨l2, acc2, some (.int z), rfl, by omega, rfl, ?_⟩
          rw [← h2]
          show nubF acc2 l2 = nubF (nubS acc2 z) l2
          unfold nubS
          rw [if_pos hz]
        · rw [if_neg hz] at hk
          have hw := sto_new (vs := ups acc2.length) (y := (acc2.length : Int)) hz (by omega)
          rw [← ups_snoc] at hw
          refine O.wp_of (a := (.nx, [some (false, iT r), some (true, .dic ((acc2 ++ [z]).map .int) ((ups (acc2.length + 1)).map .int)), some (false, .int z)])) (by simp [dLen, hk, hw, -List.map_append]) ?_
          refine ⟨l2, acc2 ++ [z], some (.int z), rfl, by rw [List.length_append, List.length_singleton]; omega, by rw [List.length_append, List.length_singleton]; rfl, ?_⟩
          rw [← h2]
          show nubF (acc2 ++ [z]) l2 = nubF (nubS acc2 z) l2
          unfold nubS
          rw [if_neg hz]
    · obtain ⟨l2, acc2, x, e, h1, rfl, h2⟩ := hI
      cases l2 with
      | cons z l2 => cases e
      | nil =>
        have h2 : acc2 = nubF acc l := h2
        rw [h2]
        exact ⟨rfl, x, rfl⟩
  obtain ⟨⟨fl, ρ⟩, er, h1, x, h2⟩ := O.wp_ex (step r [] none (by simpa using hl))
  cases h1
  dsimp only at h2
  subst h2
  have hin : ∀ z ∈ r, z ∈ nubF [] r := fun z hz => nubF_in hz
  unfold numR
  generalize nubF [] r = m at er hin
  have hc := fLc_map (vs := [2]) (fi := fIt (fVar 0)) (t := gN 2) (f := op2 dIx (.var 1) (.var 2)) (ρ := [some (false, iT r), some (true, .dic (m.map .int) ((ups m.length).map .int)), fz x]) (ρ1 := [some (false, iT r), some (true, .dic (m.map .int) ((ups m.length).map .int)), fz x]) (ds := r.map .int)
    (fun d => match d with | .int z => .int (m.idxOf z : Int) | _ => .non) (by simp; simp [iT]) ?_ (by rw [List.length_map]; omega) fun d hd => ?_
  · have e : (r.map D.int).map (fun d => match d with | .int z => D.int (m.idxOf z : Int) | _ => .non) = (r.map fun z => (m.idxOf z : Int)).map .int := by
      rw [List.map_map, List.map_map]; rfl
    rw [e] at hc
    unfold d_numbered b_numbered
    rw [run1]
    simp only [List.replicate]
    have er' : forL (gN 2) (sExp (fSetd 1 [(fVar 2), (opN dLen [(.var 1)])])) (r.map .int) [some (false, iT r), some (true, .dic [] []), none] = .ok (.nx, [some (false, iT r), some (true, .dic (m.map .int) ((ups m.length).map .int)), fz x]) := er
    have hs : sFor (fIt (fVar 0)) (gN 2) (sExp (fSetd 1 [(fVar 2), (opN dLen [(.var 1)])])) [some (false, iT r), some (true, .dic [] []), none] = .ok (.nx, [some (false, iT r), some (true, .dic (m.map .int) ((ups m.length).map .int)), fz x]) := by
      rw [r_for]
      have : fIt (fVar 0) [some (false, iT r), some (true, .dic [] []), none] = .ok (r.map .int, [some (false, iT r), some (true, .dic [] []), none]) := by simp; simp [iT]
      rw [this, O.bind_ok]
      exact er'
    rw [r_seq, r_set, r_dic0, O.bind_ok, O.bind_ok]
    dsimp only [List.set]
    rw [r_seq, hs, O.bind_ok]
    show finF false (sRet _ _) = _
    rw [r_ret, r_opN, r_evs1, r_pv, hc]
    rfl
  · cases x <;> rfl
  · obtain ⟨z, hz, rfl⟩ := List.mem_map.mp hd
    have hk := look_ups m z
    rw [if_pos (hin z hz)] at hk
    refine ⟨_, false, [some (false, iT r), some (true, .dic (m.map .int) ((ups m.length).map .int)), some (false, .int z)], rfl, ?_, rfl⟩
    simp [wipeE, dIx, kd_int, hk]
end H
namespace H
set_option autoImplicit false
open PySem L2 U
theorem lawNumbered_ok {r : List Int} (hl : r.length ≤ 1000) : d_law_numbered [iT r] = .ok (false, iT (numR r), []) := by
  have step : ∀ (l acc : List Int) (x : Option D), acc.length + l.length ≤ 1000 → (forL (gN 2) (sIf (tOp2 dNotIn (.var 2) (.var 1)) (sExp (fMut mApp 1 [(fVar 2)])) sNil) (l.map .int) [some (false, iT r), some (true, .lst (acc.map .int)), fz x]).wp fun w => w.1 = .nx ∧ ∃ x, w.2 = [some (false, iT r), some (true, .lst ((nubF acc l).map .int)), fz x] := by
    intro l acc x hl
    refine forL_wp (fun l' ρ => ∃ l2 acc2 x, l' = l2.map .int ∧ acc2.length + l2.length ≤ 1000 ∧ ρ = [some (false, iT r), some (true, .lst (acc2.map .int)), fz x] ∧ nubF acc2 l2 = nubF acc l) (fun d l' ρ hI => ?_) (fun ρ hI => ?_) _ _ ⟨l, acc, x, rfl, hl, rfl, rfl⟩
    · obtain ⟨l2, acc2, x, e, h1, rfl, h2⟩ := hI
      cases l2 with
      | nil => cases e
      | cons z l2 =>
        rw [List.map_cons] at e
        cases e
        rw [List.length_cons] at h1
        refine ⟨_, rfl, ?_⟩
        have hn := v_notInL z acc2
        by_cases hz : z ∈ acc2
        · refine O.wp_of (a := (.nx, [some (false, iT r), some (true, .lst (acc2.map .int)), some (false, .int z)])) (by simp [hn, hz]) ?_
          refine ⟨l2, acc2, some (.int z), rfl, by omega, rfl, ?_⟩
          rw [← h2]
          show nubF acc2 l2 = nubF (nubS acc2 z) l2
          unfold nubS
          rw [if_pos hz]
        · have ha : mApp (acc2.map .int) [.int z] = some (.non, (acc2 ++ [z]).map .int) := by
            unfold mApp
            dsimp only
            rw [if_pos (by rw [List.length_map]; omega), List.map_append]
            rfl
          refine O.wp_of (a := (.nx, [some (false, iT r), some (true, .lst ((acc2 ++ [z]).map .int)), some (false, .int z)])) (by simp [hn, hz, ha, -List.map_append]) ?_
          refine ⟨l2, acc2 ++ [z], some (.int z), rfl, by rw [List.length_append, List.length_singleton]; omega, rfl, ?_⟩
          rw [← h2]
          show nubF (acc2 ++ [z]) l2 = nubF (nubS acc2 z) l2
          unfold nubS
          rw [if_neg hz]
    · obtain ⟨l2, acc2, x, e, h1, rfl, h2⟩ := hI
      cases l2 with
      | cons z l2 => cases e
      | nil =>
        have h2 : acc2 = nubF acc l := h2
        rw [h2]
        exact ⟨rfl, x, rfl⟩
  obtain ⟨⟨fl, ρ⟩, er, h1, x, h2⟩ := O.wp_ex (step r [] none (by simpa using hl))
  cases h1
  dsimp only at h2
  subst h2
  have hin : ∀ z ∈ r, z ∈ nubF [] r := fun z hz => nubF_in hz
  have hle := nubF_len r []
  unfold numR
  generalize nubF [] r = m at er hin
  have hc := fLc_map (vs := [2]) (fi := fIt (fVar 0)) (t := gN 2) (f := fIndex (.var 1) (.var 2)) (ρ := [some (false, iT r), some (true, .lst (m.map .int)), fz x]) (ρ1 := [some (false, iT r), some (true, .lst (m.map .int)), fz x]) (ds := r.map .int)
    (fun d => match d with | .int z => .int (m.idxOf z : Int) | _ => .non) (by simp; simp [iT]) (by cases x <;> rfl) (by rw [List.length_map]; omega) fun d hd => by
    obtain ⟨z, hz, rfl⟩ := List.mem_map.mp hd
    have hk := v_indexI z m (hin z hz)
    refine ⟨_, false, [some (false, iT r), some (true, .lst (m.map .int)), some (false, .int z)], rfl, ?_, rfl⟩
    simp [wipeE, fIndex, hk]
  have e : (r.map D.int).map (fun d => match d with | .int z => D.int (m.idxOf z : Int) | _ => .non) = (r.map fun z => (m.idxOf z : Int)).map .int := by
    rw [List.map_map, List.map_map]; rfl
  rw [e] at hc
  unfold d_law_numbered b_law_numbered
  rw [run1]
  simp only [List.replicate]
  have er' : forL (gN 2) (sIf (tOp2 dNotIn (.var 2) (.var 1)) (sExp (fMut mApp 1 [(fVar 2)])) sNil) (r.map .int) [some (false, iT r), some (true, .lst []), none] = .ok (.nx, [some (false, iT r), some (true, .lst (m.map .int)), fz x]) := er
  have hs : sFor (fIt (fVar 0)) (gN 2) (sIf (tOp2 dNotIn (.var 2) (.var 1)) (sExp (fMut mApp 1 [(fVar 2)])) sNil) [some (false, iT r), some (true, .lst []), none] = .ok (.nx, [some (false, iT r), some (true, .lst (m.map .int)), fz x]) := by
    rw [r_for]
    have : fIt (fVar 0) [some (false, iT r), some (true, .lst []), none] = .ok (r.map .int, [some (false, iT r), some (true, .lst []), none]) := by simp; simp [iT]
    rw [this, O.bind_ok]
    exact er'
  have h0 : sSet 1 (fLst []) [some (false, iT r), none, none] = .ok (.nx, [some (false, iT r), some (true, .lst []), none]) := by simp
  rw [r_seq, h0, O.bind_ok]
  dsimp only
  rw [r_seq, hs, O.bind_ok]
  show finF false (sRet _ _) = _
  rw [r_ret, r_opN, r_evs1, r_pv, hc]
  rfl
section
variable {many : Int} {rows : List (List Int)}
theorem metLook_ok (S : SysOk many rows) {run : List Int} (hr : RunOk rows run) : d_met_look [sysD many rows, iT run] = .ok (false, iT (numR (U.mapOf many rows run)), []) := by
  have h := runMap_ok S hr
  have hn := numbered_ok (r := U.mapOf many rows run) (by rw [U.mapOf_len]; have := S.hi; omega)
  unfold d_met_look b_met_look
  rw [run2]
  simp [q_run, h, hn, finF, outs]
/-- runs that swallow one another part the same boards -/
theorem num_same (S : SysOk many rows) {w w' : List Int} (hw : RunOk rows w) (hw' : RunOk rows w') (h : ∀ z ∈ w, Sw many rows w' z) (h' : ∀ z ∈ w', Sw many rows w z) : numR (U.mapOf many rows w) = numR (U.mapOf many rows w') := by
  have key : U.mapOf many rows w' = (U.mapOf many rows w).map (goes rows w') := by
    unfold U.mapOf
    rw [List.map_map]
    refine List.map_congr_left fun b hb => ?_
    have hb := ups_mem hb
    exact (sw_all S hw h hb.1 (by omega)).symm
  rw [key]
  symm
  refine numR_inj _ fun x hx y hy e => ?_
  unfold U.mapOf at hx hy
  obtain ⟨a, ha, rfl⟩ := List.mem_map.mp hx
  obtain ⟨b, hb, rfl⟩ := List.mem_map.mp hy
  have ha := ups_mem ha
  have hb := ups_mem hb
  rw [sw_all S hw h ha.1 (by omega), sw_all S hw h hb.1 (by omega)] at e
  rw [← sw_all S hw' h' ha.1 (by omega), ← sw_all S hw' h' hb.1 (by omega), e]
end
theorem ints_perm {ys : List D} {r : List Int} (h : List.Perm ys (r.map D.int)) : ∃ run : List Int, ys = run.map .int := by
  have : ∀ y ∈ ys, ∃ v : Int, y = .int v := fun y hy => by
    obtain ⟨v, _, h⟩ := List.mem_map.mp (h.mem_iff.mp hy)
    exact ⟨v, h.symm⟩
  clear h
  induction ys with
  | nil => exact ⟨[], rfl⟩
  | cons y ys ih =>
    obtain ⟨r, rfl⟩ := ih fun y hy => this y (List.mem_cons_of_mem _ hy)
    obtain ⟨v, rfl⟩ := this y List.mem_cons_self
    exact ⟨v :: r, rfl⟩
end H
namespace H
set_option autoImplicit false
open PySem L2 U
def b_fixed_boards : SF :=
    (sRet (opN dTuple [(.val (fLc [2, 3] (fEnum (fCall d_run_map [(.var 0), (.var 1)])) (gT [(gN 2), (gN 3)]) (tOp2 dEq (.var 3) (.var 2)) (fVar 2)))]))
def d_fixed_boards : FD := runF 2 4 false b_fixed_boards
def b_fixed_many : SF :=
    (sRet (opN dLen [(.val (fCall d_fixed_boards [(.var 0), (.var 1)]))]))
def d_fixed_many : FD := runF 2 2 false b_fixed_many
def b_law_fixed : SF :=
    (sSeq (sSet 2 (fCall d_law_map [(.var 0), (.var 1)]))
    (sRet (fLc [3] (fRg rg1 [(.val (op2 dIx (.var 0) (.val (fC (.int 0)))))]) (gN 3) (tOp2 dEq (.val (op2 dIx (.var 2) (.var 3))) (.var 3)) (fVar 3))))
def d_law_fixed : FD := runF 2 4 false b_law_fixed
theorem q_lawMap : d_law_map = fLawMap := rfl
/-- the boards that a run leaves fixed -/
def fixB (many : Int) (rows : List (List Int)) (run : List Int) : List Int := (ups many.toNat).filter fun b => decide (goes rows run b = b)
theorem ups_asc (n : Nat) : (ups n).Pairwise (· < ·) := by
  unfold ups
  rw [List.pairwise_map]
  exact List.pairwise_lt_range.imp fun {a b} h => by omega
theorem ups_in {n : Nat} {b : Int} (h0 : 0 ≤ b) (h1 : b < n) : b ∈ ups n := by
  unfold ups
  exact List.mem_map.mpr ⟨b.toNat, List.mem_range.mpr (by omega), by omega⟩
/-- a strictly ascending list is what its members are sorted -/
theorem sort_asc {l m : List Int} (hl : l.Nodup) (hm : m.Pairwise (· < ·)) (h : ∀ z, z ∈ l ↔ z ∈ m) : sortI l = m :=
  sorted_one ((sortI_perm l).trans (perm_mem hl (hm.imp fun {a b} h => by omega) h)) (sortI_sorted l) (hm.imp fun {a b} h => by omega)
section
variable {many : Int} {rows : List (List Int)}
theorem fix_mem (S : SysOk many rows) {run : List Int} {b : Int} : b ∈ fixB many rows run ↔ (0 ≤ b ∧ b < many) ∧ goes rows run b = b := by
  unfold fixB
  rw [List.mem_filter, decide_eq_true_eq]
  have := S.lo
  constructor
  · rintro ⟨h1, h2⟩
    have := ups_mem h1
    exact ⟨by omega, h2⟩
  · rintro ⟨h1, h2⟩
    exact ⟨ups_in h1.1 (by omega), h2⟩
theorem fix_asc (many : Int) (rows : List (List Int)) (run : List Int) : (fixB many rows run).Pairwise (· < ·) := (ups_asc _).filter _
theorem fix_nodup (many : Int) (rows : List (List Int)) (run : List Int) : (fixB many rows run).Nodup := (fix_asc many rows run).imp fun {a b} h => by omega
theorem goes_idem (S : SysOk many rows) (L : OnlyLast many rows) {w : List Int} (hw : RunOk rows w) {b : Int} (b0 : 0 ≤ b) (b1 : b < many) : goes rows w (goes rows w b) = goes rows w b := sw_all S hw (fun z hz => sw_in S L hw hz) b0 b1
theorem goes_fix (S : SysOk many rows) (L : OnlyLast many rows) {w : List Int} (hw : RunOk rows w) {b : Int} (b0 : 0 ≤ b) (b1 : b < many) : goes rows w b ∈ fixB many rows w :=
  (fix_mem S).mpr ⟨goes_rg S hw b0 b1, goes_idem S L hw b0 b1⟩
/-- where a run leads is what it leaves fixed -/
theorem map_fix (S : SysOk many rows) (L : OnlyLast many rows) {w : List Int} (hw : RunOk rows w) : sortI (nubI (U.mapOf many rows w)) = fixB many rows w := by
  refine sort_asc (nubI_nodup _) (fix_asc _ _ _) fun z => ?_
  rw [nubI_mem]
  unfold U.mapOf
  constructor
  · intro h
    obtain ⟨b, hb, rfl⟩ := List.mem_map.mp h
    have hb := ups_mem hb
    have := S.lo
    exact goes_fix S L hw hb.1 (by omega)
  · intro h
    obtain ⟨⟨h0, h1⟩, h2⟩ := (fix_mem S).mp h
    exact List.mem_map.mpr ⟨z, ups_in h0 (by omega), h2⟩
/-- w' swallows w: what w' leaves fixed, w leads to what it leaves fixed itself, one to one -/
theorem fix_led (S : SysOk many rows) (L : OnlyLast many rows) {w w' : List Int} (hw : RunOk rows w) (h : ∀ z ∈ w, Sw many rows w' z) : ((fixB many rows w').map (goes rows w)).Nodup ∧ ∀ z ∈ (fixB many rows w').map (goes rows w), z ∈ fixB many rows w := by
  constructor
  · refine List.pairwise_map.mpr ((fix_nodup many rows w').imp_of_mem fun {a b} ha hb n e => n ?_)
    obtain ⟨⟨a0, a1⟩, a2⟩ := (fix_mem S).mp ha
    obtain ⟨⟨b0, b1⟩, b2⟩ := (fix_mem S).mp hb
    rw [← a2, ← b2, ← sw_all S hw h a0 a1, ← sw_all S hw h b0 b1, e]
  · intro z hz
    obtain ⟨b, hb, rfl⟩ := List.mem_map.mp hz
    obtain ⟨⟨b0, b1⟩, _⟩ := (fix_mem S).mp hb
    exact goes_fix S L hw b0 b1
theorem fix_le (S : SysOk many rows) (L : OnlyLast many rows) {w w' : List Int} (hw : RunOk rows w) (h : ∀ z ∈ w, Sw many rows w' z) : (fixB many rows w').length ≤ (fixB many rows w).length := by
  obtain ⟨h1, h2⟩ := fix_led S L hw h
  have := len_le_of_sub h1 h2
  rw [List.length_map] at this
  exact this
/-- both swallow one another: the fixed boards of one led by the other are the other's -/
theorem fix_sort (S : SysOk many rows) (L : OnlyLast many rows) {w w' : List Int} (hw : RunOk rows w) (hw' : RunOk rows w') (h : ∀ z ∈ w, Sw many rows w' z) (h' : ∀ z ∈ w', Sw many rows w z) : sortI ((fixB many rows w').map (goes rows w)) = fixB many rows w := by
  obtain ⟨h1, h2⟩ := fix_led S L hw h
  refine sort_asc h1 (fix_asc _ _ _) fun z => ⟨h2 z, fun hz => ?_⟩
  obtain ⟨⟨z0, z1⟩, z2⟩ := (fix_mem S).mp hz
  have hg := goes_rg S hw' z0 z1
  refine List.mem_map.mpr ⟨goes rows w' z, goes_fix S L hw' z0 z1, ?_⟩
  rw [sw_all S hw' h' z0 z1, z2]
theorem en_ints (l : List Int) : enD 0 (l.map D.int) = (ups l.length).map fun j => .tup [.int j, .int (l.getD j.toNat 0)] := by
  apply List.ext_getElem?
  intro j
  unfold ups
  rw [List.map_map, List.getElem?_map]
  by_cases h : j < l.length
  · rw [List.getElem?_range h, enD_get (l.map D.int) 0 j (.int l[j]) (by rw [List.getElem?_map, List.getElem?_eq_getElem h]; rfl), Nat.zero_add]
    simp [h]
  · rw [List.getElem?_eq_none (by rw [enD_len, List.length_map]; omega), List.getElem?_eq_none (by rw [List.length_range]; omega)]
    rfl
def fixP (M : List Int) : D → Bool
  | .tup [.int b, _] => decide (M.getD b.toNat 0 = b)
  | _ => false
def fixG : D → D
  | .tup [d, _] => d
  | _ => .non
theorem fixedBoards_ok (S : SysOk many rows) {run : List Int} (hr : RunOk rows run) : d_fixed_boards [sysD many rows, iT run] = .ok (false, iT (fixB many rows run), []) := by
  have h := runMap_ok S hr
  have hfi : fEnum (fCall d_run_map [(.var 0), (.var 1)]) [some (false, sysD many rows), some (false, iT run), none, none] = .ok ((ups (U.mapOf many rows run).length).map (fun j => .tup [.int j, .int ((U.mapOf many rows run).getD j.toNat 0)]), [some (false, sysD many rows), some (false, iT run), none, none]) := by
    rw [← en_ints]
    simp [q_run, h]
    rfl
  have hml : (U.mapOf many rows run).length = many.toNat := U.mapOf_len _
  have hc := fLc_filter (vs := [2, 3]) (t := gT [(gN 2), (gN 3)]) (cs := tOp2 dEq (.var 3) (.var 2)) (f := fVar 2) (fixP (U.mapOf many rows run)) fixG hfi rfl (by rw [List.length_map, ups_len, hml]; have := S.hi; omega) fun x hx => by
    obtain ⟨b, hb, rfl⟩ := List.mem_map.mp hx
    generalize hv : (U.mapOf many rows run).getD b.toNat 0 = v
    refine ⟨[some (false, sysD many rows), some (false, iT run), some (false, .int b), some (false, .int v)], [some (false, sysD many rows), some (false, iT run), some (false, .int b), some (false, .int v)], rfl, ?_, fun _ => rfl, fun _ => ⟨false, _, rfl, rfl⟩⟩
    have : fixP (U.mapOf many rows run) (.tup [.int b, .int v]) = decide (v = b) := by
      show decide ((U.mapOf many rows run).getD b.toNat 0 = b) = _
      rw [hv]
    rw [this]
    simp [dEq, D.good, D.okN, eqD]
    by_cases e : v = b <;> simp [e]
  have e : (((ups (U.mapOf many rows run).length).map (fun j => D.tup [.int j, .int ((U.mapOf many rows run).getD j.toNat 0)])).filter (fixP (U.mapOf many rows run))).map fixG = (fixB many rows run).map .int := by
    rw [List.filter_map, List.map_map, hml]
    unfold fixB
    have : (fun j => D.tup [.int j, .int ((U.mapOf many rows run).getD j.toNat 0)]) = fun j => D.tup [.int j, .int ((U.mapOf many rows run).getD j.toNat 0)] := rfl
    have e2 : (ups many.toNat).filter (fixP (U.mapOf many rows run) ∘ fun j => D.tup [.int j, .int ((U.mapOf many rows run).getD j.toNat 0)]) = (ups many.toNat).filter fun b => decide (goes rows run b = b) := by
      refine List.filter_congr fun b hb => ?_
      have hb := ups_mem hb
      show decide ((U.mapOf many rows run).getD b.toNat 0 = b) = _
      rw [U.mapOf_get hb.1 (by omega)]
    rw [e2]
    rfl
  rw [e] at hc
  unfold d_fixed_boards b_fixed_boards
  rw [run2]
  simp only [List.replicate]
  show finF false (sRet _ _) = _
  rw [r_ret, r_opN, r_evs1, r_pv, hc]
  rfl
theorem fixedMany_ok (S : SysOk many rows) {run : List Int} (hr : RunOk rows run) : d_fixed_many [sysD many rows, iT run] = .ok (false, .int (fixB many rows run).length, []) := by
  have h := fixedBoards_ok S hr
  have hl : dLen [iT (fixB many rows run)] = some (false, .int (fixB many rows run).length) := by
    show dLen [.tup _] = _
    rw [v_lenT, List.length_map]
  generalize ((fixB many rows run).length : Int) = nn at hl
  unfold d_fixed_many b_fixed_many
  rw [run2]
  simp [h, hl, finF, outs]
theorem lawFixed_ok (S : SysOk many rows) {run : List Int} (hr : RunOk rows run) : d_law_fixed [sysD many rows, iT run] = .ok (true, .lst ((fixB many rows run).map .int), []) := by
  have h := lawMap_ok S hr
  have hml : (U.mapOf many rows run).length = many.toNat := U.mapOf_len _
  have hgo : ∀ b : Int, 0 ≤ b → b < many → dIx (iT (U.mapOf many rows run)) (.int b) = some (false, .int (goes rows run b)) := fun b b0 b1 => by
    rw [v_ixI b0 (by rw [hml]; omega), U.mapOf_get b0 b1]
  generalize U.mapOf many rows run = M at h hgo
  have hg := rg1_ok (j := many) (by have := S.lo; omega) (by have := S.hi; omega)
  have hc := fLc_filter (vs := [3]) (fi := fRg rg1 [(.val (op2 dIx (.var 0) (.val (fC (.int 0)))))]) (t := gN 3) (cs := tOp2 dEq (.val (op2 dIx (.var 2) (.var 3))) (.var 3)) (f := fVar 3) (ρ := [some (false, sysD many rows), some (false, iT run), some (false, iT M), none]) (ρ1 := [some (false, sysD many rows), some (false, iT run), some (false, iT M), none]) (ds := (ups many.toNat).map .int)
    (fun x => match x with | .int b => decide (goes rows run b = b) | _ => false) id (by simp [hg]) rfl (by rw [List.length_map, ups_len]; have := S.hi; omega) fun x hx => by
    obtain ⟨b, hb, rfl⟩ := List.mem_map.mp hx
    have hb := ups_mem hb
    have hi := hgo b hb.1 (by omega)
    show ∃ ρ2 ρ3, _ ∧ _ = O.ok (decide (goes rows run b = b), ρ3) ∧ (decide (goes rows run b = b) = false → _) ∧ (decide (goes rows run b = b) = true → ∃ fr ρ4, fVar 3 ρ3 = O.ok (fr, D.int b, ρ4) ∧ _)
    generalize goes rows run b = v at hi
    refine ⟨[some (false, sysD many rows), some (false, iT run), some (false, iT M), some (false, .int b)], [some (false, sysD many rows), some (false, iT run), some (false, iT M), some (false, .int b)], rfl, ?_, fun _ => rfl, fun _ => ⟨false, _, rfl, rfl⟩⟩
    simp [hi, dEq, D.good, D.okN, eqD]
    by_cases e : v = b <;> simp [e]
  have e : (((ups many.toNat).map D.int).filter (fun x => match x with | .int b => decide (goes rows run b = b) | _ => false)).map id = (fixB many rows run).map .int := by
    rw [List.map_id, List.filter_map]
    rfl
  rw [e] at hc
  unfold d_law_fixed b_law_fixed
  rw [run2]
  simp only [List.replicate]
  have e0 : sSet 2 (fCall d_law_map [(.var 0), (.var 1)]) [some (false, sysD many rows), some (false, iT run), none, none] = .ok (.nx, [some (false, sysD many rows), some (false, iT run), some (false, iT M), none]) := by
    simp [q_lawMap, h]
  rw [r_seq, e0, O.bind_ok]
  show finF false (sRet _ _) = _
  rw [r_ret, hc]
  rfl
end
end H
namespace H
set_option autoImplicit false
open PySem L2 U
def b_behind_map : SF :=
    (sRet (opN dTuple [(.val (fLc [3] (fIt (fVar 1)) (gN 3) (tAll []) (op2 dIx (.val (op2 dIx (.val (op2 dIx (.var 0) (.val (fC (.int 1))))) (.var 2))) (.var 3))))]))
def d_behind_map : FD := runF 3 4 false b_behind_map
def b_normal_runs : SF :=
    (sSeq (sSet 1 (op1 dTupRg (.val (op2 dIx (.var 0) (.val (fC (.int 0)))))))
    (sSeq (sPar [(3, (fDic (fVar 1) (fTup []))), (4, (fLst [(fTup [(fTup []), (fVar 1)])]))])
    (sSeq (sFor (fRg rg1 [(.val (opN dLen [(.val (op2 dIx (.var 0) (.val (fC (.int 1)))))]))]) (gN 2)
    (sSeq (sSet 5 (fLst []))
    (sSeq (sFor (fIt (opN dSorted [(.var 4)])) (gT [(gN 6), (gN 7)])
    (sFor (fRg rg1 [(.val (opN dLen [(.val (op2 dIx (.var 0) (.val (fC (.int 1)))))]))]) (gN 8)
    (sSeq (sSet 9 (fCall d_behind_map [(.var 0), (.var 7), (.var 8)]))
    (sIf (tOp2 dNotIn (.var 9) (.var 3))
    (sSeq (sDx 3 (fVar 9) (op2 dAdd (.var 6) (.val (fTup [(fVar 8)]))))
    (sExp (fMut mApp 5 [(fTup [(op2 dAdd (.var 6) (.val (fTup [(fVar 8)]))), (fVar 9)])])))
    sNil))))
    (sSet 4 (fVar 5)))))
    (sRet (fMv 3)))))
def d_normal_runs : FD := runF 1 10 false b_normal_runs
def b_normal_run : SF :=
    (sRet (op2 dIx (.val (fCall d_normal_runs [(.var 0)])) (.val (fCall d_run_map [(.var 0), (.var 1)]))))
def d_normal_run : FD := runF 2 2 false b_normal_run
def b_are_alike : SF :=
    (sRet (op2 (blO dEq) (.val (fCall d_run_map [(.var 0), (.var 1)])) (.val (fCall d_run_map [(.var 0), (.var 2)]))))
def d_are_alike : FD := runF 3 3 false b_are_alike
/-! ### dicts whose keys are tuples of ints -/
theorem nkL_ints : ∀ a : List Int, D.nkL (a.map D.int) = some (a.map NestedKey.num)
  | [] => rfl
  | x :: a => by
    rw [List.map_cons, List.map_cons]
    unfold D.nkL
    rw [nkL_ints a]
    rfl
theorem nk_iT (a : List Int) : (iT a).nk = some (.tup (a.map .num)) := by
  show (D.nkL (a.map D.int)).map NestedKey.tup = _
  rw [nkL_ints]; rfl
theorem num_inj : ∀ {a b : List Int}, a.map NestedKey.num = b.map NestedKey.num → a = b
  | [], [], _ => rfl
  | [], _ :: _, h => by cases h
  | _ :: _, [], h => by cases h
  | x :: a, y :: b, h => by
    rw [List.map_cons, List.map_cons] at h
    injection h with h1 h2
    injection h1 with h1
    rw [h1, num_inj h2]
theorem nk_eq (a b : List Int) : (iT a).nk = (iT b).nk ↔ a = b := by
  rw [nk_iT, nk_iT]
  constructor
  · intro h
    injection h with h
    injection h with h
    exact num_inj h
  · intro h; rw [h]
theorem depth_nums : ∀ a : List Int, NestedKey.depthAll (a.map .num) = 0
  | [] => rfl
  | x :: a => by
    rw [List.map_cons]
    unfold NestedKey.depthAll
    rw [depth_nums a]
    rfl
theorem isTk_iT (a : List Int) : (iT a).isTk = true := by
  show (match D.nkL (a.map D.int) with | some ks => decide ((NestedKey.tup ks).depth ≤ 8) | none => false) = true
  rw [nkL_ints]
  dsimp only
  unfold NestedKey.depth
  rw [depth_nums]
  rfl
theorem kd_iT (ms : List (List Int)) (m : List Int) : dKd (ms.map iT) (iT m) = true := by
  unfold dKd
  have : (ms.map iT).all D.isTk = true := by
    rw [List.all_eq_true]
    intro d hd
    obtain ⟨y, _, rfl⟩ := List.mem_map.mp hd
    exact isTk_iT y
  rw [this, isTk_iT, Bool.and_self, Bool.or_true]
theorem has_iT (ms : List (List Int)) (m : List Int) : dHas (ms.map iT) (iT m) = decide (m ∈ ms) := by
  unfold dHas
  rw [List.any_map]
  induction ms with
  | nil => rfl
  | cons y ms ih =>
    rw [List.any_cons, ih]
    by_cases e : y = m
    · subst e
      simp
    · have : ¬ (iT y).nk = (iT m).nk := fun z => e ((nk_eq _ _).mp z)
      simp only [Function.comp, decide_eq_false this, Bool.false_or]
      have e' : ¬ m = y := fun z => e z.symm
      simp [e']
/-- what a table tells -/
def lookP : List (List Int × List Int) → List Int → Option (List Int)
  | [], _ => none
  | p :: F, m => if p.2 = m then some p.1 else lookP F m
abbrev kyP (F : List (List Int × List Int)) : List D := F.map fun p => iT p.2
abbrev vlP (F : List (List Int × List Int)) : List D := F.map fun p => iT p.1
theorem look_P : ∀ (F : List (List Int × List Int)) (m : List Int), dLook (kyP F) (vlP F) (iT m) = (lookP F m).map iT
  | [], _ => rfl
  | p :: F, m => by
    show dLook (iT p.2 :: kyP F) (iT p.1 :: vlP F) (iT m) = _
    unfold dLook lookP
    by_cases e : p.2 = m
    · rw [if_pos e, if_pos (by rw [e])]; rfl
    · rw [if_neg e, if_neg (fun z => e ((nk_eq _ _).mp z)), look_P F m]
theorem look_none {F : List (List Int × List Int)} {m : List Int} : lookP F m = none ↔ ¬ ∃ p ∈ F, p.2 = m := by
  induction F with
  | nil => simp [lookP]
  | cons p F ih =>
    unfold lookP
    by_cases e : p.2 = m
    · rw [if_pos e]
      simp [e]
    · rw [if_neg e, ih]
      simp [e]
theorem look_mem {F : List (List Int × List Int)} {m r : List Int} (h : lookP F m = some r) : (r, m) ∈ F := by
  induction F with
  | nil => cases h
  | cons p F ih =>
    unfold lookP at h
    by_cases e : p.2 = m
    · rw [if_pos e] at h
      cases h
      rw [← e]; exact List.mem_cons_self
    · rw [if_neg e] at h
      exact List.mem_cons_of_mem _ (ih h)
theorem sto_P {F : List (List Int × List Int)} {r m : List Int} (h : ¬ ∃ p ∈ F, p.2 = m) (hl : F.length < 16777216) : dSto (kyP F) (vlP F) (iT m) (iT r) = some (kyP (F ++ [(r, m)]), vlP (F ++ [(r, m)])) := by
  unfold dSto kyP vlP
  have e : F.map (fun p => iT p.2) = (F.map (·.2)).map iT := by rw [List.map_map]; rfl
  rw [e, kd_iT, has_iT, List.length_map, List.length_map, decide_eq_true hl, decide_eq_false (fun z => h (by
    obtain ⟨p, hp, e⟩ := List.mem_map.mp z
    exact ⟨p, hp, e⟩)), List.map_append, List.map_append, List.map_map]
  rfl
/-! ### normal_runs -/
abbrev prD (p : List Int × List Int) : D := .tup [iT p.1, iT p.2]
def leP (a b : List Int × List Int) : Bool := leD (prD a) (prD b)
theorem py_iT (a : List Int) : (iT a).py = .tuple (a.map .int) := by
  show PyData.tuple (D.pyL (a.map D.int)) = _
  rw [pyL_map, List.map_map]
  rfl
theorem alike_T (xs ys : List PyData) : PySem.W.alike (.tuple xs) (.tuple ys) = PySem.W.alikeAll xs ys := by rw [PySem.W.alike]
theorem alike_C (x y : PyData) (xs ys : List PyData) : PySem.W.alikeAll (x :: xs) (y :: ys) = (PySem.W.alike x y && PySem.W.alikeAll xs ys) := by rw [PySem.W.alikeAll]
theorem alike_N : PySem.W.alikeAll [] [] = true := by rw [PySem.W.alikeAll]
theorem alike_two (x y x' y' : PyData) : PySem.W.alike (.tuple [x, y]) (.tuple [x', y']) = (PySem.W.alike x x' && (PySem.W.alike y y' && true)) := by
  rw [alike_T, alike_C, alike_C, alike_N]
theorem alike_tints (a b : List Int) : PySem.W.alike (.tuple (a.map .int)) (.tuple (b.map .int)) = true := by
  rw [alike_T]
  exact PySem.W.alike_ints a b
theorem okSort_P {L : List (List Int × List Int)} (hl : L.length ≤ 16777216) : okSort (L.map prD) = true := by
  unfold okSort
  simp only [Bool.and_eq_true, decide_eq_true_eq, List.length_map]
  refine ⟨⟨⟨?_, ?_⟩, ?_⟩, hl⟩
  · rw [List.all_eq_true]
    intro d hd
    obtain ⟨p, _, rfl⟩ := List.mem_map.mp hd
    show (D.tup [iT p.1, iT p.2]).good = true
    unfold D.good D.okN
    rw [List.all_cons, List.all_cons, List.all_nil]
    have h1 : D.okN 59 (iT p.1) = true := good_ints p.1 58
    have h2 : D.okN 59 (iT p.2) = true := good_ints p.2 58
    rw [h1, h2]; rfl
  · rw [List.all_eq_true]
    intro d hd
    obtain ⟨p, _, rfl⟩ := List.mem_map.mp hd
    rfl
  · rw [List.all_eq_true]
    intro d hd
    obtain ⟨p, _, rfl⟩ := List.mem_map.mp hd
    rw [List.all_eq_true]
    intro d hd
    obtain ⟨q, _, rfl⟩ := List.mem_map.mp hd
    show PySem.W.alike (.tuple [(iT p.1).py, (iT p.2).py]) (.tuple [(iT q.1).py, (iT q.2).py]) = true
    rw [py_iT, py_iT, py_iT, py_iT, alike_two, alike_tints, alike_tints]
    rfl
theorem sorted_P {L : List (List Int × List Int)} (hl : L.length ≤ 16777216) : dSorted [.lst (L.map prD)] = some (true, .lst ((L.mergeSort leP).map prD)) := by
  unfold dSorted
  dsimp only
  cases L with
  | nil => simp [intsD, sortI, List.mergeSort_nil]
  | cons p L =>
    have : intsD ((p :: L).map prD) = none := rfl
    rw [this]
    dsimp only
    rw [if_pos (okSort_P hl), List.map_mergeSort (r := leP) (s := leD) (f := prD) (fun _ _ _ _ => rfl)]
section
variable {many : Int} {rows : List (List Int)}
theorem behind_ok (S : SysOk many rows) {m : List Int} (hm : ∀ b ∈ m, 0 ≤ b ∧ b < many) (hl : m.length ≤ 1000) {d : Int} (d0 : 0 ≤ d) (d1 : d < rows.length) : d_behind_map [sysD many rows, iT m, .int d] = .ok (false, iT (m.map (act rows d)), []) := by
  have hc := fLc_map (vs := [3]) (fi := fIt (fVar 1)) (t := gN 3) (f := op2 dIx (.val (op2 dIx (.val (op2 dIx (.var 0) (.val (fC (.int 1))))) (.var 2))) (.var 3)) (ρ := [some (false, sysD many rows), some (false, iT m), some (false, .int d), none]) (ρ1 := [some (false, sysD many rows), some (false, iT m), some (false, .int d), none]) (ds := m.map .int)
    (fun x => match x with | .int b => .int (act rows d b) | _ => .non) (by simp; simp [iT]) rfl (by rw [List.length_map]; omega) fun x hx => by
    obtain ⟨b, hb, rfl⟩ := List.mem_map.mp hx
    have hb := hm b hb
    refine ⟨_, false, [some (false, sysD many rows), some (false, iT m), some (false, .int d), some (false, .int b)], rfl, ?_, rfl⟩
    simp [wipeE, v_ixR d0 d1, v_act S d0 d1 hb.1 hb.2, -List.getD_eq_getElem?_getD]
  have e : (m.map D.int).map (fun x => match x with | .int b => D.int (act rows d b) | _ => .non) = (m.map (act rows d)).map .int := by
    rw [List.map_map, List.map_map]; rfl
  rw [e] at hc
  unfold d_behind_map b_behind_map
  rw [run3]
  simp only [List.replicate]
  show finF false (sRet _ _) = _
  rw [r_ret, r_opN, r_evs1, r_pv, hc]
  rfl
/-- one deed more behind a run -/
def step1 (rows : List (List Int)) (p : List Int × List Int) (acc : List (List Int × List Int) × List (List Int × List Int)) (d : Int) : List (List Int × List Int) × List (List Int × List Int) :=
  match lookP acc.1 (p.2.map (act rows d)) with
  | some _ => acc
  | none => (acc.1 ++ [(p.1 ++ [d], p.2.map (act rows d))], acc.2 ++ [(p.1 ++ [d], p.2.map (act rows d))])
def stepP (rows : List (List Int)) (acc : List (List Int × List Int) × List (List Int × List Int)) (p : List Int × List Int) : List (List Int × List Int) × List (List Int × List Int) := (ups rows.length).foldl (step1 rows p) acc
def turnF (rows : List (List Int)) (s : List (List Int × List Int) × List (List Int × List Int)) : List (List Int × List Int) × List (List Int × List Int) := (s.2.mergeSort leP).foldl (stepP rows) (s.1, [])
def bfs (many : Int) (rows : List (List Int)) : Nat → List (List Int × List Int) × List (List Int × List Int)
  | 0 => ([([], ups many.toNat)], [([], ups many.toNat)])
  | t + 1 => turnF rows (bfs many rows t)
theorem step1_len (p : List Int × List Int) (acc : List (List Int × List Int) × List (List Int × List Int)) (d : Int) : (step1 rows p acc d).1.length ≤ acc.1.length + 1 ∧ (step1 rows p acc d).2.length ≤ acc.2.length + 1 := by
  unfold step1
  split <;> simp
theorem fold1_len (p : List Int × List Int) : ∀ (ds : List Int) (acc : List (List Int × List Int) × List (List Int × List Int)), (ds.foldl (step1 rows p) acc).1.length ≤ acc.1.length + ds.length ∧ (ds.foldl (step1 rows p) acc).2.length ≤ acc.2.length + ds.length
  | [], acc => ⟨Nat.le_refl _, Nat.le_refl _⟩
  | d :: ds, acc => by
    have h1 := step1_len (rows := rows) p acc d
    have h2 := fold1_len p ds (step1 rows p acc d)
    rw [List.foldl_cons, List.length_cons]
    omega
theorem foldP_len : ∀ (ps : List (List Int × List Int)) (acc : List (List Int × List Int) × List (List Int × List Int)), (ps.foldl (stepP rows) acc).1.length ≤ acc.1.length + ps.length * rows.length ∧ (ps.foldl (stepP rows) acc).2.length ≤ acc.2.length + ps.length * rows.length
  | [], acc => ⟨by simp, by simp⟩
  | p :: ps, acc => by
    have h1 := fold1_len (rows := rows) p (ups rows.length) acc
    have h2 := foldP_len ps (stepP rows acc p)
    rw [ups_len] at h1
    rw [List.foldl_cons, List.length_cons, Nat.succ_mul]
    have h3 : stepP rows acc p = (ups rows.length).foldl (step1 rows p) acc := rfl
    rw [h3] at h2 ⊢
    omega
theorem bfs_len (h6 : rows.length ≤ 6) : ∀ t, (bfs many rows t).1.length ≤ 2 * 6 ^ t ∧ (bfs many rows t).2.length ≤ 6 ^ t
  | 0 => ⟨by show 1 ≤ 2 * 6 ^ 0; decide, by show 1 ≤ 6 ^ 0; decide⟩
  | t + 1 => by
    have h1 := bfs_len h6 t
    have h2 := foldP_len (rows := rows) ((bfs many rows t).2.mergeSort leP) ((bfs many rows t).1, [])
    rw [List.length_mergeSort] at h2
    have h3 : (bfs many rows t).2.length * rows.length ≤ 6 ^ t * 6 := Nat.mul_le_mul h1.2 h6
    show (turnF rows (bfs many rows t)).1.length ≤ _ ∧ (turnF rows (bfs many rows t)).2.length ≤ _
    unfold turnF
    rw [Nat.pow_succ]
    simp only [List.length_nil] at h2
    omega
/-- what stands in the tables: runs and what they do -/
def Vld (many : Int) (rows : List (List Int)) (n : Nat) (F : List (List Int × List Int)) : Prop := ∀ p ∈ F, p.1.length ≤ n ∧ RunOk rows p.1 ∧ p.2 = U.mapOf many rows p.1
theorem map_snoc (run : List Int) (d : Int) : (U.mapOf many rows run).map (act rows d) = U.mapOf many rows (run ++ [d]) := by
  unfold U.mapOf
  rw [List.map_map]
  refine List.map_congr_left fun b _ => ?_
  show act rows d (goes rows run b) = _
  rw [goes_app]
  rfl
theorem step1_vld {n : Nat} {p : List Int × List Int} {acc : List (List Int × List Int) × List (List Int × List Int)} {d : Int} (d0 : 0 ≤ d) (d1 : d < rows.length) (hp : p.1.length ≤ n ∧ RunOk rows p.1 ∧ p.2 = U.mapOf many rows p.1) (h1 : Vld many rows (n + 1) acc.1) (h2 : Vld many rows (n + 1) acc.2) :
    Vld many rows (n + 1) (step1 rows p acc d).1 ∧ Vld many rows (n + 1) (step1 rows p acc d).2 := by
  unfold step1
  split
  · exact ⟨h1, h2⟩
  · have hn : (p.1 ++ [d]).length ≤ n + 1 ∧ RunOk rows (p.1 ++ [d]) ∧ p.2.map (act rows d) = U.mapOf many rows (p.1 ++ [d]) := by
      refine ⟨by rw [List.length_append, List.length_singleton]; omega, fun z hz => (List.mem_append.mp hz).elim (hp.2.1 z) fun q => by rw [List.mem_singleton.mp q]; exact ⟨d0, d1⟩, ?_⟩
      rw [hp.2.2, map_snoc]
    exact ⟨fun q hq => (List.mem_append.mp hq).elim (h1 q) fun e => by rw [List.mem_singleton.mp e]; exact hn, fun q hq => (List.mem_append.mp hq).elim (h2 q) fun e => by rw [List.mem_singleton.mp e]; exact hn⟩
theorem fold1_vld {n : Nat} {p : List Int × List Int} (hp : p.1.length ≤ n ∧ RunOk rows p.1 ∧ p.2 = U.mapOf many rows p.1) : ∀ (ds : List Int) (acc : List (List Int × List Int) × List (List Int × List Int)), (∀ d ∈ ds, 0 ≤ d ∧ d < rows.length) → Vld many rows (n + 1) acc.1 → Vld many rows (n + 1) acc.2 →
    Vld many rows (n + 1) (ds.foldl (step1 rows p) acc).1 ∧ Vld many rows (n + 1) (ds.foldl (step1 rows p) acc).2
  | [], acc, _, h1, h2 => ⟨h1, h2⟩
  | d :: ds, acc, hd, h1, h2 => by
    have hd0 := hd d List.mem_cons_self
    have := step1_vld hd0.1 hd0.2 hp h1 h2
    exact fold1_vld hp ds _ (fun z hz => hd z (List.mem_cons_of_mem _ hz)) this.1 this.2
theorem foldP_vld {n : Nat} : ∀ (ps : List (List Int × List Int)) (acc : List (List Int × List Int) × List (List Int × List Int)), Vld many rows n ps → Vld many rows (n + 1) acc.1 → Vld many rows (n + 1) acc.2 →
    Vld many rows (n + 1) (ps.foldl (stepP rows) acc).1 ∧ Vld many rows (n + 1) (ps.foldl (stepP rows) acc).2
  | [], acc, _, h1, h2 => ⟨h1, h2⟩
  | p :: ps, acc, hp, h1, h2 => by
    have := fold1_vld (hp p List.mem_cons_self) (ups rows.length) acc (fun z hz => ups_mem hz) h1 h2
    exact foldP_vld ps _ (fun q hq => hp q (List.mem_cons_of_mem _ hq)) this.1 this.2
theorem Vld.more {n : Nat} {F : List (List Int × List Int)} (h : Vld many rows n F) : Vld many rows (n + 1) F := fun p hp => ⟨Nat.le_succ_of_le (h p hp).1, (h p hp).2⟩
theorem bfs_vld : ∀ t, Vld many rows t (bfs many rows t).1 ∧ Vld many rows t (bfs many rows t).2
  | 0 => by
    have : Vld many rows 0 [([], ups many.toNat)] := fun p hp => by
      rw [List.mem_singleton.mp hp]
      refine ⟨Nat.le_refl _, fun _ h => (List.not_mem_nil h).elim, ?_⟩
      show ups many.toNat = (ups many.toNat).map (goes rows [])
      have e : (goes rows [] : Int → Int) = id := rfl
      rw [e, List.map_id]
    exact ⟨this, this⟩
  | t + 1 => by
    have h := bfs_vld t
    show Vld many rows (t + 1) (turnF rows (bfs many rows t)).1 ∧ Vld many rows (t + 1) (turnF rows (bfs many rows t)).2
    exact foldP_vld _ _ (fun p hp => h.2 p (List.mem_mergeSort.mp hp)) h.1.more (fun _ h => (List.not_mem_nil h).elim)
end
end H
namespace H
set_option autoImplicit false
open PySem L2 U
theorem ky_eq (F : List (List Int × List Int)) : kyP F = (F.map (·.2)).map iT := by unfold kyP; rw [List.map_map]; rfl
theorem notIn_P (F : List (List Int × List Int)) (m : List Int) : dNotIn (iT m) (.dic (kyP F) (vlP F)) = some (lookP F m).isNone := by
  unfold dNotIn dIn
  dsimp only
  rw [ky_eq, kd_iT, ← ky_eq, look_P]
  cases lookP F m <;> rfl
theorem ix_P {F : List (List Int × List Int)} {m r : List Int} (h : lookP F m = some r) : dIx (.dic (kyP F) (vlP F)) (iT m) = some (false, iT r) := by
  unfold dIx
  dsimp only
  rw [ky_eq, kd_iT, ← ky_eq, look_P, h]
  rfl
abbrev N (many : Int) (rows : List (List Int)) (s : List (List Int × List Int) × List (List Int × List Int)) (a2 a4 a6 a7 a8 a9 : Option (Bool × D)) : En :=
  [some (false, sysD many rows), some (false, iT (ups many.toNat)), a2, some (true, .dic (kyP s.1) (vlP s.1)), a4, some (true, .lst (s.2.map prD)), a6, a7, a8, a9]
def body1 : SF := (sSeq (sSet 9 (fCall d_behind_map [(.var 0), (.var 7), (.var 8)]))
    (sIf (tOp2 dNotIn (.var 9) (.var 3))
    (sSeq (sDx 3 (fVar 9) (op2 dAdd (.var 6) (.val (fTup [(fVar 8)]))))
    (sExp (fMut mApp 5 [(fTup [(op2 dAdd (.var 6) (.val (fTup [(fVar 8)]))), (fVar 9)])])))
    sNil))
def body2 : SF := (sFor (fRg rg1 [(.val (opN dLen [(.val (op2 dIx (.var 0) (.val (fC (.int 1)))))]))]) (gN 8) body1)
def body3 : SF := (sSeq (sSet 5 (fLst []))
    (sSeq (sFor (fIt (opN dSorted [(.var 4)])) (gT [(gN 6), (gN 7)]) body2)
    (sSet 4 (fVar 5))))
theorem mapp_ok {Lg : List (List Int × List Int)} {q : List Int × List Int} (h : Lg.length < 16777216) : mApp (Lg.map prD) [prD q] = some (.non, (Lg ++ [q]).map prD) := by
  unfold mApp
  dsimp only
  rw [if_pos (by rw [List.length_map]; exact h), List.map_append]
  rfl
section
variable {many : Int} {rows : List (List Int)}
theorem body1_ok (S : SysOk many rows) {s : List (List Int × List Int) × List (List Int × List Int)} {r m : List Int} {d : Int} (hr : r.length ≤ 1000) (hm : ∀ b ∈ m, 0 ≤ b ∧ b < many) (hml : m.length ≤ 1000) (d0 : 0 ≤ d) (d1 : d < rows.length)
    (h1 : s.1.length < 16777216) (h2 : s.2.length < 16777216) (a2 a4 a9 : Option (Bool × D)) :
    ∃ a9', body1 (N many rows s a2 a4 (some (false, iT r)) (some (false, iT m)) (some (false, .int d)) a9) = .ok (.nx, N many rows (step1 rows (r, m) s d) a2 a4 (some (false, iT r)) (some (false, iT m)) (some (false, .int d)) a9') := by
  have hb := behind_ok S hm hml d0 d1
  have hadd : dAdd (iT r) (.tup [.int d]) = some (false, iT (r ++ [d])) := addT_ok (s := [d]) (by simp; omega)
  refine ⟨some (false, iT (m.map (act rows d))), ?_⟩
  unfold step1
  dsimp only
  generalize hmm : m.map (act rows d) = m' at hb
  have hn := notIn_P s.1 m'
  have e0 : sSet 9 (fCall d_behind_map [(.var 0), (.var 7), (.var 8)]) (N many rows s a2 a4 (some (false, iT r)) (some (false, iT m)) (some (false, .int d)) a9) = .ok (.nx, N many rows s a2 a4 (some (false, iT r)) (some (false, iT m)) (some (false, .int d)) (some (false, iT m'))) := by
    simp [hb]
  unfold body1
  rw [r_seq, e0, O.bind_ok]
  dsimp only
  cases hl : lookP s.1 m' with
  | some r' =>
    rw [hl] at hn
    have hn : dNotIn (iT m') (.dic (kyP s.1) (vlP s.1)) = some false := hn
    try dsimp only [N]
    generalize kyP s.1 = ky at hn ⊢
    generalize vlP s.1 = vl at hn ⊢
    simp [hn]
  | none =>
    rw [hl] at hn
    have hn : dNotIn (iT m') (.dic (kyP s.1) (vlP s.1)) = some true := hn
    have hst := sto_P (r := r ++ [d]) (look_none.mp hl) h1
    have hap := mapp_ok (q := (r ++ [d], m')) h2
    try dsimp only [N]
    generalize kyP (s.1 ++ [(r ++ [d], m')]) = ky' at hst ⊢
    generalize vlP (s.1 ++ [(r ++ [d], m')]) = vl' at hst ⊢
    generalize (s.2 ++ [(r ++ [d], m')]).map prD = lg' at hap ⊢
    generalize kyP s.1 = ky at hn hst ⊢
    generalize vlP s.1 = vl at hn hst ⊢
    generalize s.2.map prD = lg at hap ⊢
    have hap : mApp lg [.tup [iT (r ++ [d]), iT m']] = some (.non, lg') := hap
    simp [hn, hadd, hst, hap]
theorem loop1_ok (S : SysOk many rows) {r m : List Int} (hr : r.length ≤ 1000) (hm : ∀ b ∈ m, 0 ≤ b ∧ b < many) (hml : m.length ≤ 1000) (a2 a4 : Option (Bool × D)) : ∀ (ds : List Int) (s : List (List Int × List Int) × List (List Int × List Int)) (a8 a9 : Option (Bool × D)), (∀ d ∈ ds, 0 ≤ d ∧ d < rows.length) → s.1.length + ds.length < 16777216 → s.2.length + ds.length < 16777216 →
    ∃ a8' a9', forL (gN 8) body1 (ds.map .int) (N many rows s a2 a4 (some (false, iT r)) (some (false, iT m)) a8 a9) = .ok (.nx, N many rows (ds.foldl (step1 rows (r, m)) s) a2 a4 (some (false, iT r)) (some (false, iT m)) a8' a9')
  | [], s, a8, a9, _, _, _ => ⟨a8, a9, rfl⟩
  | d :: ds, s, a8, a9, hd, h1, h2 => by
    have hd0 := hd d List.mem_cons_self
    rw [List.length_cons] at h1 h2
    obtain ⟨a9', e⟩ := body1_ok S hr hm hml hd0.1 hd0.2 (s := s) (by omega) (by omega) a2 a4 a9
    have hs := step1_len (rows := rows) (r, m) s d
    obtain ⟨b8, b9, e2⟩ := loop1_ok S hr hm hml a2 a4 ds (step1 rows (r, m) s d) (some (false, .int d)) a9' (fun z hz => hd z (List.mem_cons_of_mem _ hz)) (by omega) (by omega)
    refine ⟨b8, b9, ?_⟩
    rw [List.map_cons]
    unfold forL
    show (body1 (N many rows s a2 a4 (some (false, iT r)) (some (false, iT m)) (some (false, .int d)) a9)).bind _ = _
    rw [e, O.bind_ok]
    exact e2
theorem body2_ok (S : SysOk many rows) {r m : List Int} (hr : r.length ≤ 1000) (hm : ∀ b ∈ m, 0 ≤ b ∧ b < many) (hml : m.length ≤ 1000) (a2 a4 : Option (Bool × D)) (s : List (List Int × List Int) × List (List Int × List Int)) (a8 a9 : Option (Bool × D)) (h1 : s.1.length + rows.length < 16777216) (h2 : s.2.length + rows.length < 16777216) :
    ∃ a8' a9', body2 (N many rows s a2 a4 (some (false, iT r)) (some (false, iT m)) a8 a9) = .ok (.nx, N many rows (stepP rows s (r, m)) a2 a4 (some (false, iT r)) (some (false, iT m)) a8' a9') := by
  have hg := rg1_ok (j := (rows.length : Int)) (by omega) (by have := S.nr; omega)
  rw [Int.toNat_natCast] at hg
  have hlen : dLen [.tup (rows.map iT)] = some (false, .int rows.length) := by rw [v_lenT, List.length_map]
  obtain ⟨b8, b9, e⟩ := loop1_ok S hr hm hml a2 a4 (ups rows.length) s a8 a9 (fun z hz => ups_mem hz) (by rw [ups_len]; exact h1) (by rw [ups_len]; exact h2)
  refine ⟨b8, b9, ?_⟩
  unfold body2
  have h3 := v_sys1 many rows
  rw [r_for]
  have e2 : fRg rg1 [(.val (opN dLen [(.val (op2 dIx (.var 0) (.val (fC (.int 1)))))]))] (N many rows s a2 a4 (some (false, iT r)) (some (false, iT m)) a8 a9) = .ok ((ups rows.length).map .int, N many rows s a2 a4 (some (false, iT r)) (some (false, iT m)) a8 a9) := by
    generalize (rows.length : Int) = nn at hg hlen
    generalize hR : D.tup (rows.map iT) = R at hlen h3
    simp [h3, hlen, hg, -v_sys1]
  rw [e2, O.bind_ok]
  exact e
theorem loop2_ok (S : SysOk many rows) {n : Nat} (hn : n ≤ 999) (a2 a4 : Option (Bool × D)) : ∀ (ps : List (List Int × List Int)) (s : List (List Int × List Int) × List (List Int × List Int)) (a6 a7 a8 a9 : Option (Bool × D)), Vld many rows n ps → s.1.length + ps.length * rows.length < 16777216 → s.2.length + ps.length * rows.length < 16777216 →
    ∃ a6' a7' a8' a9', forL (gT [(gN 6), (gN 7)]) body2 (ps.map prD) (N many rows s a2 a4 a6 a7 a8 a9) = .ok (.nx, N many rows (ps.foldl (stepP rows) s) a2 a4 a6' a7' a8' a9')
  | [], s, a6, a7, a8, a9, _, _, _ => ⟨a6, a7, a8, a9, rfl⟩
  | p :: ps, s, a6, a7, a8, a9, hv, h1, h2 => by
    rw [List.length_cons, Nat.succ_mul] at h1 h2
    obtain ⟨r, m⟩ := p
    obtain ⟨v1, v2, v3⟩ := hv _ List.mem_cons_self
    dsimp only at v1 v2 v3
    have hm : ∀ b ∈ m, 0 ≤ b ∧ b < many := by
      rw [v3]
      intro b hb
      unfold U.mapOf at hb
      obtain ⟨c, hc, rfl⟩ := List.mem_map.mp hb
      have hc := ups_mem hc
      have := S.lo
      exact goes_rg S v2 hc.1 (by omega)
    have hml : m.length ≤ 1000 := by rw [v3, U.mapOf_len]; have := S.hi; omega
    obtain ⟨a8', a9', e⟩ := body2_ok S (by omega : r.length ≤ 1000) hm hml a2 a4 s a8 a9 (by omega) (by omega)
    have hs := fold1_len (rows := rows) (r, m) (ups rows.length) s
    rw [ups_len] at hs
    obtain ⟨b6, b7, b8, b9, e2⟩ := loop2_ok S hn a2 a4 ps (stepP rows s (r, m)) (some (false, iT r)) (some (false, iT m)) a8' a9' (fun q hq => hv q (List.mem_cons_of_mem _ hq)) (by unfold stepP; omega) (by unfold stepP; omega)
    refine ⟨b6, b7, b8, b9, ?_⟩
    rw [List.map_cons]
    unfold forL
    show (body2 (N many rows s a2 a4 (some (false, iT r)) (some (false, iT m)) a8 a9)).bind _ = _
    rw [e, O.bind_ok]
    exact e2
abbrev N3 (many : Int) (rows : List (List Int)) (s : List (List Int × List Int) × List (List Int × List Int)) (fr : Bool) (a2 a5 a6 a7 a8 a9 : Option (Bool × D)) : En :=
  [some (false, sysD many rows), some (false, iT (ups many.toNat)), a2, some (true, .dic (kyP s.1) (vlP s.1)), some (fr, .lst (s.2.map prD)), a5, a6, a7, a8, a9]
theorem body3_ok (S : SysOk many rows) {n : Nat} (hn : n ≤ 999) (s : List (List Int × List Int) × List (List Int × List Int)) (fr : Bool) (a2 a5 a6 a7 a8 a9 : Option (Bool × D)) (hv : Vld many rows n s.2) (h1 : s.1.length + s.2.length * rows.length < 16777216) (h2 : s.2.length < 16777216) :
    ∃ a5' a6' a7' a8' a9', body3 (N3 many rows s fr a2 a5 a6 a7 a8 a9) = .ok (.nx, N3 many rows (turnF rows s) false a2 a5' a6' a7' a8' a9') := by
  have hso := sorted_P (L := s.2) (by omega)
  obtain ⟨b6, b7, b8, b9, e⟩ := loop2_ok S hn a2 (some (fr, .lst (s.2.map prD))) (s.2.mergeSort leP) (s.1, []) a6 a7 a8 a9 (fun p hp => hv p (List.mem_mergeSort.mp hp)) (by rw [List.length_mergeSort]; exact h1) (by rw [List.length_mergeSort]; simp; omega)
  unfold turnF
  generalize (s.2.mergeSort leP).foldl (stepP rows) (s.1, []) = s' at e
  refine ⟨some (false, .lst (s'.2.map prD)), b6, b7, b8, b9, ?_⟩
  have e0 : sSet 5 (fLst []) (N3 many rows s fr a2 a5 a6 a7 a8 a9) = .ok (.nx, N many rows (s.1, []) a2 (some (fr, .lst (s.2.map prD))) a6 a7 a8 a9) := by simp
  have e1 : sFor (fIt (opN dSorted [(.var 4)])) (gT [(gN 6), (gN 7)]) body2 (N many rows (s.1, []) a2 (some (fr, .lst (s.2.map prD))) a6 a7 a8 a9) = .ok (.nx, N many rows s' a2 (some (fr, .lst (s.2.map prD))) b6 b7 b8 b9) := by
    rw [r_for]
    have : fIt (opN dSorted [(.var 4)]) (N many rows (s.1, []) a2 (some (fr, .lst (s.2.map prD))) a6 a7 a8 a9) = .ok ((s.2.mergeSort leP).map prD, N many rows (s.1, []) a2 (some (fr, .lst (s.2.map prD))) a6 a7 a8 a9) := by
      dsimp only [N]
      generalize s.2.map prD = lg at hso ⊢
      generalize (s.2.mergeSort leP).map prD = lg2 at hso ⊢
      simp [hso]
    rw [this, O.bind_ok]
    exact e
  unfold body3
  rw [r_seq, e0, O.bind_ok]
  dsimp only
  rw [r_seq, e1, O.bind_ok]
  dsimp only
  simp
theorem loop3_ok (S : SysOk many rows) (h6 : rows.length ≤ 6) : ∀ (k t : Nat) (l : List Int) (fr : Bool) (a2 a5 a6 a7 a8 a9 : Option (Bool × D)), l.length = k → t + k ≤ 6 →
    ∃ a2' fr' a5' a6' a7' a8' a9', forL (gN 2) body3 (l.map .int) (N3 many rows (bfs many rows t) fr a2 a5 a6 a7 a8 a9) = .ok (.nx, N3 many rows (bfs many rows (t + k)) fr' a2' a5' a6' a7' a8' a9')
  | 0, t, l, fr, a2, a5, a6, a7, a8, a9, hl, ht => by
    rw [List.eq_nil_of_length_eq_zero hl]
    exact ⟨a2, fr, a5, a6, a7, a8, a9, rfl⟩
  | k + 1, t, l, fr, a2, a5, a6, a7, a8, a9, hl, ht => by
    cases l with
    | nil => cases hl
    | cons d l =>
      have hb := bfs_len (many := many) h6 t
      have hp : 6 ^ t ≤ 6 ^ 6 := Nat.pow_le_pow_right (by decide) (by omega)
      have hp6 : (6 : Nat) ^ 6 = 46656 := by decide
      have hm : (bfs many rows t).2.length * rows.length ≤ 46656 * 6 := Nat.mul_le_mul (by omega) h6
      obtain ⟨b5, b6, b7, b8, b9, e⟩ := body3_ok S (n := t) (by omega) (bfs many rows t) fr (some (false, .int d)) a5 a6 a7 a8 a9 (bfs_vld t).2 (by omega) (by omega)
      obtain ⟨c2, fr', c5, c6, c7, c8, c9, e2⟩ := loop3_ok S h6 k (t + 1) l false (some (false, .int d)) b5 b6 b7 b8 b9 (by simpa using hl) (by omega)
      refine ⟨c2, fr', c5, c6, c7, c8, c9, ?_⟩
      rw [List.map_cons]
      unfold forL
      show (body3 (N3 many rows (bfs many rows t) fr (some (false, .int d)) a5 a6 a7 a8 a9)).bind _ = _
      rw [e, O.bind_ok]
      have ek : t + 1 + k = t + (k + 1) := by omega
      rw [← ek]
      exact e2
/-- the table of normal runs -/
def nrF (many : Int) (rows : List (List Int)) : List (List Int × List Int) := (bfs many rows rows.length).1
theorem normalRuns_ok (S : SysOk many rows) (h6 : rows.length ≤ 6) : d_normal_runs [sysD many rows] = .ok (true, .dic (kyP (nrF many rows)) (vlP (nrF many rows)), []) := by
  have hg := rg1_ok (j := (rows.length : Int)) (by omega) (by have := S.nr; omega)
  rw [Int.toNat_natCast] at hg
  have hlen : dLen [.tup (rows.map iT)] = some (false, .int rows.length) := by rw [v_lenT, List.length_map]
  have htr : dTupRg (.int many) = some (false, iT (ups many.toNat)) := by
    unfold dTupRg
    dsimp only
    have := S.lo; have := S.hi
    rw [if_pos (by unfold rgOkB; rw [decide_eq_true (by omega), decide_eq_true (by omega), decide_eq_true (by omega)]; rfl), Int.sub_zero, rgD_ups]
    rfl
  obtain ⟨c2, fr', c5, c6, c7, c8, c9, e2⟩ := loop3_ok S h6 rows.length 0 (ups rows.length) true none none none none none none (ups_len _) (by omega)
  rw [Nat.zero_add] at e2
  have hk := isTk_iT (ups many.toNat)
  have e0 : sSet 1 (op1 dTupRg (.val (op2 dIx (.var 0) (.val (fC (.int 0)))))) [some (false, sysD many rows), none, none, none, none, none, none, none, none, none] = .ok (.nx, [some (false, sysD many rows), some (false, iT (ups many.toNat)), none, none, none, none, none, none, none, none]) := by simp [htr]
  have e1 : sPar [(3, (fDic (fVar 1) (fTup []))), (4, (fLst [(fTup [(fTup []), (fVar 1)])]))] [some (false, sysD many rows), some (false, iT (ups many.toNat)), none, none, none, none, none, none, none, none] = .ok (.nx, N3 many rows (bfs many rows 0) true none none none none none none) := by
    have e : parF [(3, (fDic (fVar 1) (fTup []))), (4, (fLst [(fTup [(fTup []), (fVar 1)])]))] [some (false, sysD many rows), some (false, iT (ups many.toNat)), none, none, none, none, none, none, none, none] = .ok [some (false, sysD many rows), some (false, iT (ups many.toNat)), none, some (true, .dic [iT (ups many.toNat)] [.tup []]), some (true, .lst [.tup [.tup [], iT (ups many.toNat)]]), none, none, none, none, none] := by
      generalize iT (ups many.toNat) = st at hk ⊢
      simp [hk, parF]
    rw [r_par, e]
    rfl
  have e3 : sFor (fRg rg1 [(.val (opN dLen [(.val (op2 dIx (.var 0) (.val (fC (.int 1)))))]))]) (gN 2) body3 (N3 many rows (bfs many rows 0) true none none none none none none) = .ok (.nx, N3 many rows (bfs many rows rows.length) fr' c2 c5 c6 c7 c8 c9) := by
    rw [r_for]
    have : fRg rg1 [(.val (opN dLen [(.val (op2 dIx (.var 0) (.val (fC (.int 1)))))]))] (N3 many rows (bfs many rows 0) true none none none none none none) = .ok ((ups rows.length).map .int, N3 many rows (bfs many rows 0) true none none none none none none) := by
      have h3 := v_sys1 many rows
      generalize (rows.length : Int) = nn at hg hlen
      generalize hR : D.tup (rows.map iT) = R at hlen h3
      simp [h3, hlen, hg, -v_sys1]
    rw [this, O.bind_ok]
    exact e2
  unfold d_normal_runs
  rw [run1]
  simp only [List.replicate]
  show finF false (sSeq _ (sSeq _ (sSeq (sFor _ _ body3) _)) _) = _
  rw [r_seq, e0, O.bind_ok]
  dsimp only
  rw [r_seq, e1, O.bind_ok]
  dsimp only
  rw [r_seq, e3, O.bind_ok]
  dsimp only
  unfold nrF
  simp [finF, outs]
end
end H
namespace H
set_option autoImplicit false
open PySem L2 U
section
variable {many : Int} {rows : List (List Int)}
theorem step1_le {p q : List Int × List Int} {acc : List (List Int × List Int) × List (List Int × List Int)} {d : Int} (h : q ∈ acc.1) : q ∈ (step1 rows p acc d).1 := by
  unfold step1
  split
  · exact h
  · exact List.mem_append_left _ h
theorem step1_le2 {p q : List Int × List Int} {acc : List (List Int × List Int) × List (List Int × List Int)} {d : Int} (h : q ∈ acc.2) : q ∈ (step1 rows p acc d).2 := by
  unfold step1
  split
  · exact h
  · exact List.mem_append_left _ h
theorem step1_has (p : List Int × List Int) (acc : List (List Int × List Int) × List (List Int × List Int)) (d : Int) : ∃ q ∈ (step1 rows p acc d).1, q.2 = p.2.map (act rows d) := by
  unfold step1
  split
  · rename_i r h
    exact ⟨_, look_mem h, rfl⟩
  · exact ⟨_, List.mem_append_right _ List.mem_cons_self, rfl⟩
theorem step1_new {p q : List Int × List Int} {acc : List (List Int × List Int) × List (List Int × List Int)} {d : Int} (h : q ∈ (step1 rows p acc d).1) : q ∈ acc.1 ∨ q ∈ (step1 rows p acc d).2 := by
  unfold step1 at h ⊢
  split at h
  · exact .inl h
  · exact (List.mem_append.mp h).imp id fun e => List.mem_append_right _ e
theorem fold1_le {p q : List Int × List Int} : ∀ {ds : List Int} {acc : List (List Int × List Int) × List (List Int × List Int)}, q ∈ acc.1 → q ∈ (ds.foldl (step1 rows p) acc).1
  | [], _, h => h
  | d :: ds, acc, h => fold1_le (ds := ds) (step1_le h)
theorem fold1_le2 {p q : List Int × List Int} : ∀ {ds : List Int} {acc : List (List Int × List Int) × List (List Int × List Int)}, q ∈ acc.2 → q ∈ (ds.foldl (step1 rows p) acc).2
  | [], _, h => h
  | d :: ds, acc, h => fold1_le2 (ds := ds) (step1_le2 h)
theorem fold1_has {p : List Int × List Int} : ∀ {ds : List Int} {acc : List (List Int × List Int) × List (List Int × List Int)} {d : Int}, d ∈ ds → ∃ q ∈ (ds.foldl (step1 rows p) acc).1, q.2 = p.2.map (act rows d)
  | x :: ds, acc, d, h => by
    rcases List.mem_cons.mp h with e | e
    · subst e
      obtain ⟨q, h1, h2⟩ := step1_has (rows := rows) p acc d
      exact ⟨q, fold1_le (ds := ds) h1, h2⟩
    · exact fold1_has (ds := ds) e
theorem fold1_new {p q : List Int × List Int} : ∀ {ds : List Int} {acc : List (List Int × List Int) × List (List Int × List Int)}, q ∈ (ds.foldl (step1 rows p) acc).1 → q ∈ acc.1 ∨ q ∈ (ds.foldl (step1 rows p) acc).2
  | [], _, h => .inl h
  | d :: ds, acc, h => by
    rcases fold1_new (ds := ds) h with e | e
    · rcases step1_new e with e | e
      · exact .inl e
      · exact .inr (fold1_le2 (ds := ds) e)
    · exact .inr e
theorem foldP_le {q : List Int × List Int} : ∀ {ps : List (List Int × List Int)} {acc : List (List Int × List Int) × List (List Int × List Int)}, q ∈ acc.1 → q ∈ (ps.foldl (stepP rows) acc).1
  | [], _, h => h
  | p :: ps, acc, h => foldP_le (ps := ps) (fold1_le h)
theorem foldP_le2 {q : List Int × List Int} : ∀ {ps : List (List Int × List Int)} {acc : List (List Int × List Int) × List (List Int × List Int)}, q ∈ acc.2 → q ∈ (ps.foldl (stepP rows) acc).2
  | [], _, h => h
  | p :: ps, acc, h => foldP_le2 (ps := ps) (fold1_le2 h)
theorem foldP_has {p : List Int × List Int} {d : Int} (d0 : 0 ≤ d) (d1 : d < rows.length) : ∀ {ps : List (List Int × List Int)} {acc : List (List Int × List Int) × List (List Int × List Int)}, p ∈ ps → ∃ q ∈ (ps.foldl (stepP rows) acc).1, q.2 = p.2.map (act rows d)
  | x :: ps, acc, h => by
    rcases List.mem_cons.mp h with e | e
    · subst e
      obtain ⟨q, h1, h2⟩ := fold1_has (rows := rows) (p := p) (acc := acc) (ups_in (n := rows.length) d0 d1)
      exact ⟨q, foldP_le (ps := ps) h1, h2⟩
    · exact foldP_has d0 d1 (ps := ps) e
theorem foldP_new {q : List Int × List Int} : ∀ {ps : List (List Int × List Int)} {acc : List (List Int × List Int) × List (List Int × List Int)}, q ∈ (ps.foldl (stepP rows) acc).1 → q ∈ acc.1 ∨ q ∈ (ps.foldl (stepP rows) acc).2
  | [], _, h => .inl h
  | p :: ps, acc, h => by
    rcases foldP_new (ps := ps) h with e | e
    · rcases fold1_new e with e | e
      · exact .inl e
      · exact .inr (foldP_le2 (ps := ps) e)
    · exact .inr e
theorem bfs_le {t : Nat} {q : List Int × List Int} (h : q ∈ (bfs many rows t).1) : q ∈ (bfs many rows (t + 1)).1 := by
  show q ∈ (turnF rows (bfs many rows t)).1
  exact foldP_le h
theorem bfs_inv : ∀ (t : Nat) (q : List Int × List Int), q ∈ (bfs many rows t).1 → q ∈ (bfs many rows t).2 ∨ ∀ d : Int, 0 ≤ d → d < rows.length → ∃ q' ∈ (bfs many rows t).1, q'.2 = q.2.map (act rows d)
  | 0, q, h => .inl h
  | t + 1, q, h => by
    rcases foldP_new (rows := rows) (ps := (bfs many rows t).2.mergeSort leP) (acc := ((bfs many rows t).1, [])) h with e | e
    · right
      intro d d0 d1
      rcases bfs_inv t q e with e2 | e2
      · exact foldP_has d0 d1 (List.mem_mergeSort.mpr e2)
      · obtain ⟨q', h1, h2⟩ := e2 d d0 d1
        exact ⟨q', bfs_le h1, h2⟩
    · exact .inl e
theorem bfs_all : ∀ (t : Nat) (run : List Int), RunOk rows run → run.length ≤ t → ∃ q ∈ (bfs many rows t).1, q.2 = U.mapOf many rows run
  | 0, run, hr, hl => by
    have : run = [] := List.eq_nil_of_length_eq_zero (by omega)
    subst this
    refine ⟨([], ups many.toNat), List.mem_cons_self, ?_⟩
    show ups many.toNat = (ups many.toNat).map (goes rows [])
    have e : (goes rows [] : Int → Int) = id := rfl
    rw [e, List.map_id]
  | t + 1, run, hr, hl => by
    rcases List.eq_nil_or_concat run with e | ⟨w, d, e⟩
    · subst e
      obtain ⟨q, h1, h2⟩ := bfs_all t [] hr (Nat.zero_le _)
      exact ⟨q, bfs_le h1, h2⟩
    · have e : run = w ++ [d] := by rw [e]; simp
      subst e
      rw [List.length_append, List.length_singleton] at hl
      obtain ⟨q, h1, h2⟩ := bfs_all t w (fun z hz => hr z (List.mem_append_left _ hz)) (by omega)
      have hd := hr d (List.mem_append_right _ List.mem_cons_self)
      rw [← map_snoc, ← h2]
      rcases bfs_inv t q h1 with e2 | e2
      · exact foldP_has hd.1 hd.2 (List.mem_mergeSort.mpr e2)
      · obtain ⟨q', h3, h4⟩ := e2 d hd.1 hd.2
        exact ⟨q', bfs_le h3, h4⟩
theorem goes_lastT (S : SysOk many rows) (L : OnlyLast many rows) : ∀ (w : List Int) (b : Int), RunOk rows w → 0 ≤ b → b < many → goes rows w b = goes rows (lastT w) b
  | [], b, _, _, _ => rfl
  | x :: w, b, hr, b0, b1 => by
    have hx := hr x List.mem_cons_self
    have hr' : RunOk rows w := fun z hz => hr z (List.mem_cons_of_mem _ hz)
    have ha := act_rg S hx.1 hx.2 b0 b1
    rw [lastT_cons]
    split
    · rename_i hm
      show goes rows w (act rows x b) = _
      rw [sw_in S L hr' hm b b0 b1, goes_lastT S L w b hr' b0 b1]
    · show goes rows w (act rows x b) = goes rows (lastT w) (act rows x b)
      exact goes_lastT S L w _ hr' ha.1 ha.2
theorem nodup_len {l : List Int} {n : Nat} (h : l.Nodup) (hr : ∀ z ∈ l, 0 ≤ z ∧ z < (n : Int)) : l.length ≤ n := by
  have := len_le_of_sub h (l' := ups n) fun z hz => ups_in (hr z hz).1 (hr z hz).2
  rw [ups_len] at this
  exact this
theorem nr_look (S : SysOk many rows) (L : OnlyLast many rows) {run : List Int} (hr : RunOk rows run) : ∃ r, lookP (nrF many rows) (U.mapOf many rows run) = some r ∧ RunOk rows r ∧ r.length ≤ rows.length ∧ U.mapOf many rows r = U.mapOf many rows run := by
  have hl : RunOk rows (lastT run) := fun z hz => hr z ((lastT_mem run z).mp hz)
  obtain ⟨q, h1, h2⟩ := bfs_all (many := many) rows.length (lastT run) hl (nodup_len (lastT_nodup run) hl)
  have e : U.mapOf many rows (lastT run) = U.mapOf many rows run := mO_ext fun b b0 b1 => (goes_lastT S L run b hr b0 b1).symm
  rw [e] at h2
  cases hlk : lookP (nrF many rows) (U.mapOf many rows run) with
  | none => exact absurd ⟨q, h1, h2⟩ (look_none.mp hlk)
  | some r =>
    obtain ⟨v1, v2, v3⟩ := (bfs_vld rows.length).1 _ (look_mem hlk)
    exact ⟨r, rfl, v2, v1, v3.symm⟩
/-- the normal run -/
def nrm (many : Int) (rows : List (List Int)) (run : List Int) : List Int := (lookP (nrF many rows) (U.mapOf many rows run)).getD []
theorem nrm_map (S : SysOk many rows) (L : OnlyLast many rows) {run : List Int} (hr : RunOk rows run) : RunOk rows (nrm many rows run) ∧ (nrm many rows run).length ≤ rows.length ∧ U.mapOf many rows (nrm many rows run) = U.mapOf many rows run := by
  obtain ⟨r, h1, h2, h3, h4⟩ := nr_look S L hr
  unfold nrm
  rw [h1]
  exact ⟨h2, h3, h4⟩
theorem normalRun_ok (S : SysOk many rows) (L : OnlyLast many rows) (h6 : rows.length ≤ 6) {run : List Int} (hr : RunOk rows run) : d_normal_run [sysD many rows, iT run] = .ok (false, iT (nrm many rows run), []) := by
  have h1 := normalRuns_ok S h6
  have h2 := runMap_ok S hr
  obtain ⟨r, h3, _⟩ := nr_look S L hr
  have h4 := ix_P h3
  have e : nrm many rows run = r := by unfold nrm; rw [h3]; rfl
  rw [e]
  generalize kyP (nrF many rows) = ky at h1 h4
  generalize vlP (nrF many rows) = vl at h1 h4
  generalize U.mapOf many rows run = m at h2 h4
  unfold d_normal_run b_normal_run
  rw [run2]
  have hs := imm_sys many rows
  simp [h1, q_run, h2, h4, finF, outs, D.calm, frzAll]
theorem nrm_eq (S : SysOk many rows) (L : OnlyLast many rows) {r s : List Int} (hr : RunOk rows r) (hs : RunOk rows s) : decide (nrm many rows r = nrm many rows s) = decide (U.mapOf many rows r = U.mapOf many rows s) := by
  by_cases h : U.mapOf many rows r = U.mapOf many rows s
  · rw [decide_eq_true h, decide_eq_true]
    unfold nrm
    rw [h]
  · rw [decide_eq_false h, decide_eq_false]
    intro e
    apply h
    rw [← (nrm_map S L hr).2.2, ← (nrm_map S L hs).2.2, e]
theorem areAlike_ok (S : SysOk many rows) {r s : List Int} (hr : RunOk rows r) (hs : RunOk rows s) : d_are_alike [sysD many rows, iT r, iT s] = .ok (false, .bl (decide (U.mapOf many rows r = U.mapOf many rows s)), []) := by
  have h1 := runMap_ok S hr
  have h2 := runMap_ok S hs
  have h3 := v_eqT (U.mapOf many rows r) (U.mapOf many rows s)
  generalize U.mapOf many rows r = m at h1 h3
  generalize U.mapOf many rows s = m' at h2 h3
  unfold d_are_alike b_are_alike
  rw [run3]
  simp [q_run, h1, h2, h3, finF, outs]
end
end H
namespace H
set_option autoImplicit false
open PySem L2 U
/-! ### rows by size -/
def ltR (a b : List Int) : Prop := a.length < b.length ∨ (a.length = b.length ∧ a < b)
theorem lt_snoc : ∀ {a b : List Int}, a.length = b.length → a < b → ∀ c d : List Int, a ++ c < b ++ d
  | [], [], _, h, _, _ => absurd h (List.lt_irrefl _)
  | [], _ :: _, e, _, _, _ => by cases e
  | _ :: _, [], e, _, _, _ => by cases e
  | x :: a, y :: b, e, h, c, d => by
    rw [List.cons_append, List.cons_append]
    rw [List.cons_lt_cons_iff] at h ⊢
    rcases h with h | ⟨h1, h2⟩
    · exact .inl h
    · exact .inr ⟨h1, lt_snoc (by simpa using e) h2 c d⟩
theorem lt_app : ∀ (a : List Int) {c d : List Int}, c < d → a ++ c < a ++ d
  | [], _, _, h => h
  | x :: a, c, d, h => by
    rw [List.cons_append, List.cons_append, List.cons_lt_cons_iff]
    exact .inr ⟨rfl, lt_app a h⟩
theorem ltR_irr (a : List Int) : ¬ ltR a a := by
  rintro (h | ⟨_, h⟩)
  · omega
  · exact List.lt_irrefl _ h
theorem ltR_trans {a b c : List Int} (h : ltR a b) (h' : ltR b c) : ltR a c := by
  rcases h with h | ⟨h1, h2⟩ <;> rcases h' with h' | ⟨h3, h4⟩
  · exact .inl (by omega)
  · exact .inl (by omega)
  · exact .inl (by omega)
  · exact .inr ⟨by omega, List.lt_trans h2 h4⟩
theorem ltR_tri (a b : List Int) : ltR a b ∨ a = b ∨ ltR b a := by
  rcases Nat.lt_trichotomy a.length b.length with h | h | h
  · exact .inl (.inl h)
  · by_cases h1 : a < b
    · exact .inl (.inr ⟨h, h1⟩)
    · by_cases h2 : b < a
      · exact .inr (.inr (.inr ⟨h.symm, h2⟩))
      · exact .inr (.inl (List.le_antisymm (List.not_lt.mp h2) (List.not_lt.mp h1)))
  · exact .inr (.inr (.inl h))
theorem ltR_snoc {a b : List Int} (h : ltR a b) (c : List Int) : ltR (a ++ c) (b ++ c) := by
  rcases h with h | ⟨h1, h2⟩
  · exact .inl (by simp only [List.length_append]; omega)
  · exact .inr ⟨by simp only [List.length_append]; omega, lt_snoc h1 h2 c c⟩
/-! ### the order of the program's levels -/
theorem eqv_ints : ∀ (a b : List Int), PyData.eqvAll (a.map .int) (b.map .int) = decide (a = b)
  | [], [] => by simp [PyData.eqvAll]
  | [], _ :: _ => by simp [PyData.eqvAll]
  | _ :: _, [] => by simp [PyData.eqvAll]
  | x :: a, y :: b => by
    rw [List.map_cons, List.map_cons]
    unfold PyData.eqvAll
    rw [eqv_ints a b]
    unfold PyData.eqv
    by_cases h : x = y <;> by_cases h2 : a = b <;> simp [h, h2]
theorem dlt_ints (a b : List Int) : PySem.W.dataLt (.tuple (a.map .int)) (.tuple (b.map .int)) = decide (a < b) := by
  rw [PySem.W.dataLt_tuple]
  exact PySem.W.dataLt_ints a b
theorem leP_eq (p q : List Int × List Int) : leP p q = if p.1 = q.1 then decide (p.2 ≤ q.2) else decide (p.1 ≤ q.1) := by
  show (!PySem.W.dataLt (.tuple [(iT q.1).py, (iT q.2).py]) (.tuple [(iT p.1).py, (iT p.2).py])) = _
  rw [py_iT, py_iT, py_iT, py_iT, PySem.W.dataLt_pair (alike_tints _ _) (alike_tints _ _), dlt_ints, dlt_ints]
  have e1 : PyData.eqv (.tuple (q.1.map .int)) (.tuple (p.1.map .int)) = decide (q.1 = p.1) := by
    unfold PyData.eqv
    exact eqv_ints _ _
  have e2 : PyData.eqv (.tuple (q.2.map .int)) (.tuple (p.2.map .int)) = decide (q.2 = p.2) := by
    unfold PyData.eqv
    exact eqv_ints _ _
  rw [e1, e2]
  by_cases h : p.1 = q.1
  · rw [if_pos h, decide_eq_true h.symm, if_pos rfl]
    by_cases h2 : q.2 = p.2
    · rw [decide_eq_true h2, if_pos rfl, decide_eq_true (by rw [h2]; exact List.le_refl _)]; rfl
    · rw [decide_eq_false h2, if_neg Bool.false_ne_true]
      by_cases h3 : q.2 < p.2
      · rw [decide_eq_true h3, decide_eq_false (fun z => List.not_lt.mpr z h3)]; rfl
      · rw [decide_eq_false h3, decide_eq_true (List.not_lt.mp h3)]; rfl
  · rw [if_neg h, decide_eq_false (fun z => h z.symm), if_neg Bool.false_ne_true]
    by_cases h3 : q.1 < p.1
    · rw [decide_eq_true h3, decide_eq_false (fun z => List.not_lt.mpr z h3)]; rfl
    · rw [decide_eq_false h3, decide_eq_true (List.not_lt.mp h3)]; rfl
theorem leP_iff (p q : List Int × List Int) : leP p q = true ↔ p.1 < q.1 ∨ (p.1 = q.1 ∧ p.2 ≤ q.2) := by
  rw [leP_eq]
  by_cases h : p.1 = q.1
  · rw [if_pos h, decide_eq_true_eq]
    constructor
    · exact fun z => .inr ⟨h, z⟩
    · rintro (z | z)
      · rw [h] at z; exact absurd z (List.lt_irrefl _)
      · exact z.2
  · rw [if_neg h, decide_eq_true_eq]
    constructor
    · intro z
      by_cases h3 : p.1 < q.1
      · exact .inl h3
      · exact absurd (List.le_antisymm z (List.not_lt.mp h3)) h
    · rintro (z | z)
      · exact List.le_of_lt z
      · exact absurd z.1 h
theorem leP_trans (p q r : List Int × List Int) (h : leP p q = true) (h' : leP q r = true) : leP p r = true := by
  rw [leP_iff] at h h' ⊢
  rcases h with h | ⟨h1, h2⟩ <;> rcases h' with h' | ⟨h3, h4⟩
  · exact .inl (List.lt_trans h h')
  · exact .inl (h3 ▸ h)
  · exact .inl (h1 ▸ h')
  · exact .inr ⟨h1.trans h3, List.le_trans h2 h4⟩
theorem leP_total (p q : List Int × List Int) : (leP p q || leP q p) = true := by
  rw [Bool.or_eq_true, leP_iff, leP_iff]
  by_cases h1 : p.1 < q.1
  · exact .inl (.inl h1)
  · by_cases h2 : q.1 < p.1
    · exact .inr (.inl h2)
    · have e := List.le_antisymm (List.not_lt.mp h2) (List.not_lt.mp h1)
      rcases List.le_total p.2 q.2 with h | h
      · exact .inl (.inr ⟨e, h⟩)
      · exact .inr (.inr ⟨e.symm, h⟩)
end H
namespace H
set_option autoImplicit false
open PySem L2 U
/-! ### tables in which the first one stays -/
def addF (acc : List (List Int × List Int) × List (List Int × List Int)) (c : List Int × List Int) : List (List Int × List Int) × List (List Int × List Int) :=
  match lookP acc.1 c.2 with
  | some _ => acc
  | none => (acc.1 ++ [c], acc.2 ++ [c])
theorem lookP_hit {p : List Int × List Int} {F : List (List Int × List Int)} {m : List Int} (e : p.2 = m) : lookP (p :: F) m = some p.1 := by
  rw [show lookP (p :: F) m = if p.2 = m then some p.1 else lookP F m from rfl, if_pos e]
theorem lookP_miss {p : List Int × List Int} {F : List (List Int × List Int)} {m : List Int} (e : ¬ p.2 = m) : lookP (p :: F) m = lookP F m := by
  rw [show lookP (p :: F) m = if p.2 = m then some p.1 else lookP F m from rfl, if_neg e]
theorem look_app (F G : List (List Int × List Int)) (m : List Int) : lookP (F ++ G) m = (lookP F m).or (lookP G m) := by
  induction F with
  | nil => rfl
  | cons p F ih =>
    rw [List.cons_append]
    by_cases e : p.2 = m
    · rw [lookP_hit e, lookP_hit e]; rfl
    · rw [lookP_miss e, lookP_miss e, ih]
theorem addF_none {F N : List (List Int × List Int)} {c : List Int × List Int} (h : lookP F c.2 = none) : addF (F, N) c = (F ++ [c], N ++ [c]) := by
  unfold addF
  dsimp only
  rw [h]
theorem addF_some {F N : List (List Int × List Int)} {c : List Int × List Int} {r : List Int} (h : lookP F c.2 = some r) : addF (F, N) c = (F, N) := by
  unfold addF
  dsimp only
  rw [h]
theorem addF_spec : ∀ (C : List (List Int × List Int)) (F N : List (List Int × List Int)), ∃ X, C.foldl addF (F, N) = (F ++ X, N ++ X) ∧ (∀ q ∈ X, q ∈ C ∧ lookP F q.2 = none ∧ lookP C q.2 = some q.1) ∧ ∀ m, lookP (F ++ X) m = (lookP F m).or (lookP C m)
  | [], F, N => ⟨[], by simp, fun _ h => (by cases h), fun m => by rw [List.append_nil]; cases lookP F m <;> rfl⟩
  | c :: C, F, N => by
    rw [List.foldl_cons]
    cases hc : lookP F c.2 with
    | some r =>
      rw [addF_some hc]
      obtain ⟨X, h1, h2, h3⟩ := addF_spec C F N
      refine ⟨X, h1, fun q hq => ?_, fun m => ?_⟩
      · obtain ⟨k1, k2, k3⟩ := h2 q hq
        refine ⟨List.mem_cons_of_mem _ k1, k2, ?_⟩
        rw [lookP_miss (fun e => by rw [← e, hc] at k2; cases k2), k3]
      · rw [h3 m]
        by_cases e : c.2 = m
        · rw [← e, hc]; rfl
        · rw [lookP_miss e]
    | none =>
      rw [addF_none hc]
      obtain ⟨X, h1, h2, h3⟩ := addF_spec C (F ++ [c]) (N ++ [c])
      refine ⟨c :: X, by rw [h1]; simp, fun q hq => ?_, fun m => ?_⟩
      · rcases List.mem_cons.mp hq with e | e
        · subst e
          exact ⟨List.mem_cons_self, hc, lookP_hit rfl⟩
        · obtain ⟨k1, k2, k3⟩ := h2 q e
          rw [look_app] at k2
          have k4 : lookP F q.2 = none := by
            cases h : lookP F q.2 with
            | none => rfl
            | some x => rw [h] at k2; cases k2
          have k5 : ¬ c.2 = q.2 := fun e => by
            rw [k4, lookP_hit e] at k2
            cases k2
          exact ⟨List.mem_cons_of_mem _ k1, k4, by rw [lookP_miss k5, k3]⟩
      · have h4 := h3 m
        rw [List.append_assoc, List.singleton_append] at h4
        rw [h4, look_app]
        cases lookP F m with
        | some x => rfl
        | none =>
          by_cases e : c.2 = m
          · rw [lookP_hit e, lookP_hit e]; rfl
          · rw [lookP_miss e, lookP_miss e]; rfl
section
variable {many : Int} {rows : List (List Int)}
/-- the candidates of a turn -/
def candP (rows : List (List Int)) (p : List Int × List Int) (d : Int) : List Int × List Int := (p.1 ++ [d], p.2.map (act rows d))
def candL (rows : List (List Int)) (l : List (List Int × List Int)) : List (List Int × List Int) := l.flatMap fun p => (ups rows.length).map (candP rows p)
theorem step1_add (p : List Int × List Int) (acc : List (List Int × List Int) × List (List Int × List Int)) (d : Int) : step1 rows p acc d = addF acc (candP rows p d) := rfl
theorem turnF_add (s : List (List Int × List Int) × List (List Int × List Int)) : turnF rows s = (candL rows (s.2.mergeSort leP)).foldl addF (s.1, []) := by
  unfold turnF candL
  rw [List.foldl_flatMap]
  congr 1
  funext acc p
  rw [List.foldl_map]
  rfl
/-- the first run of those that do the same -/
def First (many : Int) (rows : List (List Int)) (r : List Int) : Prop := ∀ r', RunOk rows r' → U.mapOf many rows r' = U.mapOf many rows r → ¬ ltR r' r
theorem look_first {L : List (List Int × List Int)} (hs : L.Pairwise fun p q => ltR p.1 q.1) {m r : List Int} (h : lookP L m = some r) {p : List Int × List Int} (hp : p ∈ L) (hm : p.2 = m) : r = p.1 ∨ ltR r p.1 := by
  induction L with
  | nil => cases hp
  | cons q L ih =>
    rw [List.pairwise_cons] at hs
    unfold lookP at h
    by_cases e : q.2 = m
    · rw [if_pos e] at h
      cases h
      rcases List.mem_cons.mp hp with z | z
      · rw [z]; exact .inl rfl
      · exact .inr (hs.1 p z)
    · rw [if_neg e] at h
      rcases List.mem_cons.mp hp with z | z
      · rw [z] at hm; exact absurd hm e
      · exact ih hs.2 h z
end
end H
namespace H
set_option autoImplicit false
open PySem L2 U
theorem addF_dist : ∀ (C F N : List (List Int × List Int)), F.Pairwise (fun p q => p.2 ≠ q.2) → (C.foldl addF (F, N)).1.Pairwise (fun p q => p.2 ≠ q.2)
  | [], F, N, h => h
  | c :: C, F, N, h => by
    rw [List.foldl_cons]
    cases hc : lookP F c.2 with
    | some r => rw [addF_some hc]; exact addF_dist C F N h
    | none =>
      rw [addF_none hc]
      refine addF_dist C _ _ ?_
      rw [List.pairwise_append]
      refine ⟨h, List.pairwise_singleton _ _, fun p hp q hq e => ?_⟩
      rw [List.mem_singleton.mp hq] at e
      exact look_none.mp hc ⟨p, hp, e⟩
section
variable {many : Int} {rows : List (List Int)}
theorem cand_sort {l : List (List Int × List Int)} {t : Nat} (hl : ∀ p ∈ l, p.1.length = t) (hs : l.Pairwise fun p q => p.1 < q.1) : (candL rows l).Pairwise fun p q => ltR p.1 q.1 := by
  unfold candL
  rw [List.pairwise_flatMap]
  refine ⟨fun p _ => ?_, ?_⟩
  · rw [List.pairwise_map]
    refine (ups_asc _).imp fun {a b} h => ?_
    refine .inr ⟨by simp [candP], ?_⟩
    show p.1 ++ [a] < p.1 ++ [b]
    refine lt_app _ ?_
    rw [List.cons_lt_cons_iff]
    exact .inl h
  · refine hs.imp_of_mem fun {p q} hp hq h x hx y hy => ?_
    obtain ⟨a, _, rfl⟩ := List.mem_map.mp hx
    obtain ⟨b, _, rfl⟩ := List.mem_map.mp hy
    refine .inr ⟨by simp [candP, hl p hp, hl q hq], ?_⟩
    exact lt_snoc ((hl p hp).trans (hl q hq).symm) h _ _
theorem cand_mem {l : List (List Int × List Int)} {q : List Int × List Int} : q ∈ candL rows l ↔ ∃ p ∈ l, ∃ d : Int, (0 ≤ d ∧ d < rows.length) ∧ q = candP rows p d := by
  unfold candL
  rw [List.mem_flatMap]
  constructor
  · rintro ⟨p, hp, h⟩
    obtain ⟨d, hd, rfl⟩ := List.mem_map.mp h
    exact ⟨p, hp, d, ups_mem hd, rfl⟩
  · rintro ⟨p, hp, d, hd, rfl⟩
    exact ⟨p, hp, List.mem_map.mpr ⟨d, ups_in hd.1 hd.2, rfl⟩⟩
structure BfI (many : Int) (rows : List (List Int)) (t : Nat) : Prop where
  first : ∀ q ∈ (bfs many rows t).1, First many rows q.1
  lev : ∀ q ∈ (bfs many rows t).2, q ∈ (bfs many rows t).1 ∧ q.1.length = t
  all : ∀ q ∈ (bfs many rows t).1, q.1.length = t → q ∈ (bfs many rows t).2
  dist : (bfs many rows t).1.Pairwise fun p q => p.2 ≠ q.2
  dist2 : (bfs many rows t).2.Pairwise fun p q => p.2 ≠ q.2
theorem bf_sorted {t : Nat} (B : BfI many rows t) : ((bfs many rows t).2.mergeSort leP).Pairwise fun p q => p.1 < q.1 := by
  have h1 : ((bfs many rows t).2.mergeSort leP).Pairwise (fun p q => p.2 ≠ q.2) := ((List.mergeSort_perm _ _).pairwise_iff fun {a b} h e => h e.symm).mpr B.dist2
  have h2 := List.pairwise_mergeSort leP_trans leP_total (bfs many rows t).2
  refine (h1.and h2).imp_of_mem fun {p q} hp hq h => ?_
  rcases (leP_iff p q).mp h.2 with z | z
  · exact z
  · exfalso
    have v1 := ((bfs_vld t).2 p (List.mem_mergeSort.mp hp)).2.2
    have v2 := ((bfs_vld t).2 q (List.mem_mergeSort.mp hq)).2.2
    exact h.1 (by rw [v1, v2, z.1])
theorem bf_all : ∀ t, BfI many rows t
  | 0 => by
    constructor
    · intro q hq
      rw [List.mem_singleton.mp hq]
      rintro r' _ _ (h | ⟨h, h'⟩)
      · exact absurd h (by simp)
      · rw [List.eq_nil_of_length_eq_zero h] at h'
        exact List.lt_irrefl _ h'
    · intro q hq
      exact ⟨hq, by rw [List.mem_singleton.mp hq]; rfl⟩
    · intro q hq _
      exact hq
    · exact List.pairwise_singleton _ _
    · exact List.pairwise_singleton _ _
  | t + 1 => by
    have B := bf_all t
    have hs := bf_sorted B
    have hlen : ∀ p ∈ (bfs many rows t).2.mergeSort leP, p.1.length = t := fun p hp => (B.lev p (List.mem_mergeSort.mp hp)).2
    have hC := cand_sort (rows := rows) hlen hs
    obtain ⟨X, h1, h2, h3⟩ := addF_spec (candL rows ((bfs many rows t).2.mergeSort leP)) (bfs many rows t).1 []
    have e : bfs many rows (t + 1) = ((bfs many rows t).1 ++ X, X) := by
      show turnF rows (bfs many rows t) = _
      rw [turnF_add, h1, List.nil_append]
    have hd := addF_dist (candL rows ((bfs many rows t).2.mergeSort leP)) (bfs many rows t).1 [] B.dist
    rw [h1] at hd
    have hX : ∀ q ∈ X, q.1.length = t + 1 := by
      intro q hq
      obtain ⟨p, hp, d, _, rfl⟩ := cand_mem.mp (h2 q hq).1
      simp [candP, hlen p hp]
    constructor
    · rw [e]
      intro q hq
      rcases List.mem_append.mp hq with hq | hq
      · exact B.first q hq
      · obtain ⟨k1, k2, k3⟩ := h2 q hq
        have hql := hX q hq
        intro r' hr' hm hlt
        have hv : q.2 = U.mapOf many rows q.1 := by
          have := (bfs_vld (many := many) (rows := rows) (t + 1)).2 q (by rw [e]; exact hq)
          exact this.2.2
        have hno : ∀ w : List Int, RunOk rows w → U.mapOf many rows w = q.2 → ¬ w.length ≤ t := by
          intro w hw hmw hl
          obtain ⟨p, hp, hp2⟩ := bfs_all (many := many) t w hw hl
          exact look_none.mp k2 ⟨p, hp, hp2.trans hmw⟩
        have hl' := hno r' hr' (hm.trans hv.symm)
        rcases hlt with hlt | ⟨hll, hlt⟩
        · omega
        · rcases List.eq_nil_or_concat r' with z | ⟨w, d, z⟩
          · subst z; exact hl' (Nat.zero_le _)
          · have z : r' = w ++ [d] := by rw [z]; simp
            subst z
            rw [List.length_append, List.length_singleton] at hll
            have hw : RunOk rows w := fun z hz => hr' z (List.mem_append_left _ hz)
            have hdd := hr' d (List.mem_append_right _ List.mem_cons_self)
            obtain ⟨p, hp, hp2⟩ := bfs_all (many := many) t w hw (by omega)
            obtain ⟨v1, v2, v3⟩ := (bfs_vld t).1 p hp
            have hpm : U.mapOf many rows (p.1 ++ [d]) = q.2 := by
              rw [← map_snoc, ← v3, hp2, map_snoc, hm, hv]
            have hpl : p.1.length = t := by
              have := hno (p.1 ++ [d]) (fun z hz => by
                rcases List.mem_append.mp hz with z1 | z1
                · exact v2 z z1
                · rw [List.mem_singleton.mp z1]; exact hdd) hpm
              rw [List.length_append, List.length_singleton] at this
              omega
            have hpc : candP rows p d ∈ candL rows ((bfs many rows t).2.mergeSort leP) := cand_mem.mpr ⟨p, List.mem_mergeSort.mpr (B.all p hp hpl), d, hdd, rfl⟩
            have hcm : (candP rows p d).2 = q.2 := by
              show p.2.map (act rows d) = _
              rw [v3, map_snoc, hpm]
            have hfi := B.first p hp w hw (by rw [← hp2, v3])
            have hwl : w.length = t := by omega
            have hle : p.1 ++ [d] = w ++ [d] ∨ ltR (p.1 ++ [d]) (w ++ [d]) := by
              rcases ltR_tri p.1 w with z | z | z
              · exact .inr (ltR_snoc z _)
              · exact .inl (by rw [z])
              · exact absurd z hfi
            have hlt' : ltR (p.1 ++ [d]) q.1 := by
              have : ltR (w ++ [d]) q.1 := .inr ⟨by simp; omega, hlt⟩
              rcases hle with z | z
              · rw [z]; exact this
              · exact ltR_trans z this
            rcases look_first hC k3 hpc hcm with z | z
            · rw [z] at hlt'
              exact ltR_irr _ hlt'
            · exact ltR_irr _ (ltR_trans z hlt')
    · rw [e]
      exact fun q hq => ⟨List.mem_append_right _ hq, hX q hq⟩
    · rw [e]
      intro q hq hl
      rcases List.mem_append.mp hq with z | z
      · have := ((bfs_vld t).1 q z).1
        omega
      · exact z
    · rw [e]; exact hd
    · rw [e]
      exact (List.pairwise_append.mp hd).2.1
theorem nrm_first (S : SysOk many rows) (L : OnlyLast many rows) {run : List Int} (hr : RunOk rows run) : First many rows (nrm many rows run) := by
  obtain ⟨r, h1, _⟩ := nr_look S L hr
  unfold nrm
  rw [h1]
  exact (bf_all rows.length).first _ (look_mem h1)
theorem first_eq {r s : List Int} (hr : RunOk rows r) (hs : RunOk rows s) (h : First many rows r) (h' : First many rows s) (e : U.mapOf many rows r = U.mapOf many rows s) : r = s := by
  rcases ltR_tri r s with z | z | z
  · exact absurd z (h' r hr e)
  · exact z
  · exact absurd z (h s hs e.symm)
theorem lastT_len : ∀ w : List Int, (lastT w).length ≤ w.length ∧ ((lastT w).length = w.length → w.Nodup)
  | [] => ⟨Nat.le_refl _, fun _ => List.nodup_nil⟩
  | x :: w => by
    have ih := lastT_len w
    rw [lastT_cons]
    split
    · rw [List.length_cons]
      exact ⟨by omega, fun h => by omega⟩
    · rename_i hx
      rw [List.length_cons, List.length_cons]
      exact ⟨by omega, fun h => List.nodup_cons.mpr ⟨hx, ih.2 (by omega)⟩⟩
theorem first_nodup (S : SysOk many rows) (L : OnlyLast many rows) {r : List Int} (hr : RunOk rows r) (h : First many rows r) : r.Nodup := by
  have hl := lastT_len r
  by_cases e : (lastT r).length = r.length
  · exact hl.2 e
  · refine absurd (.inl (by omega)) (h (lastT r) (fun z hz => hr z ((lastT_mem r z).mp hz)) ?_)
    exact mO_ext fun b b0 b1 => (goes_lastT S L r b hr b0 b1).symm
theorem first_take {r : List Int} (hr : RunOk rows r) (h : First many rows r) (k : Nat) : First many rows (r.take k) := by
  intro r' hr' hm hlt
  have e : r.take k ++ r.drop k = r := List.take_append_drop k r
  have h2 := ltR_snoc hlt (r.drop k)
  rw [e] at h2
  refine h (r' ++ r.drop k) (fun z hz => ?_) ?_ h2
  · rcases List.mem_append.mp hz with z1 | z1
    · exact hr' z z1
    · exact hr z (List.mem_of_mem_drop z1)
  · refine mO_ext fun b b0 b1 => ?_
    rw [goes_app, mO_eq hm b0 b1, ← goes_app, e]
theorem nrm_of_first (S : SysOk many rows) (L : OnlyLast many rows) {r : List Int} (hr : RunOk rows r) (h : First many rows r) : nrm many rows r = r := by
  have h1 := nrm_map S L hr
  exact first_eq h1.1 hr (nrm_first S L hr) h h1.2.2
/-! ### the law's maps -/
def mapsF (many : Int) (rows : List (List Int)) : List (List Int × List Int) := ((rowsF rows.length rows.length).map fun r => (r, U.mapOf many rows r)).foldl (fun F c => (addF (F, []) c).1) []
theorem mem_rows {r : List Int} (hr : RunOk rows r) (hn : r.Nodup) : r ∈ rowsF rows.length rows.length := by
  have key : ∀ (m t t' : Nat), t ≤ t' → ∀ r ∈ rowsF m t, r ∈ rowsF m t' := by
    intro m t t' htt r h
    induction t' with
    | zero => have : t = 0 := by omega
              subst this; exact h
    | succ t' ih =>
      by_cases q : t = t' + 1
      · subst q; exact h
      · exact List.mem_append_left _ (ih (by omega))
  exact key _ _ _ (nodup_len hn hr) r (rowsF_lev _ _ r (lev_mem _ _ r rfl hn fun z hz => hr z hz))
theorem lev_sort (m : Nat) : ∀ t, (lev m t).Pairwise (· < ·)
  | 0 => List.pairwise_singleton _ _
  | t + 1 => by
    show ((lev m t).flatMap _).Pairwise _
    rw [List.pairwise_flatMap]
    refine ⟨fun p _ => ?_, ?_⟩
    · rw [List.pairwise_map]
      refine ((ups_asc _).filter _).imp fun {a b} h => lt_app _ ?_
      rw [List.cons_lt_cons_iff]
      exact .inl h
    · refine (lev_sort m t).imp_of_mem fun {p q} hp hq h x hx y hy => ?_
      obtain ⟨a, _, rfl⟩ := List.mem_map.mp hx
      obtain ⟨b, _, rfl⟩ := List.mem_map.mp hy
      exact lt_snoc ((lev_row m t p hp).1.trans (lev_row m t q hq).1.symm) h _ _
theorem rows_sort (m : Nat) : ∀ t, (rowsF m t).Pairwise ltR
  | 0 => List.pairwise_singleton _ _
  | t + 1 => by
    show (rowsF m t ++ lev m (t + 1)).Pairwise _
    rw [List.pairwise_append]
    refine ⟨rows_sort m t, (lev_sort m (t + 1)).imp_of_mem fun {a b} ha hb h => .inr ⟨(lev_row m _ a ha).1.trans (lev_row m _ b hb).1.symm, h⟩, fun a ha b hb => .inl ?_⟩
    have h1 := (rowsF_mem m t a ha).1
    have h2 := (lev_row m _ b hb).1
    omega
theorem addF_fst : ∀ (C F N : List (List Int × List Int)), (C.foldl addF (F, N)).1 = C.foldl (fun F c => (addF (F, []) c).1) F
  | [], F, N => rfl
  | c :: C, F, N => by
    rw [List.foldl_cons, List.foldl_cons]
    cases hc : lookP F c.2 with
    | some r => rw [addF_some hc, addF_some hc]; exact addF_fst C F N
    | none => rw [addF_none hc, addF_none hc]; exact addF_fst C _ _
theorem maps_look (m : List Int) : lookP (mapsF many rows) m = lookP ((rowsF rows.length rows.length).map fun r => (r, U.mapOf many rows r)) m := by
  unfold mapsF
  rw [← addF_fst _ [] []]
  obtain ⟨X, h1, _, h3⟩ := addF_spec ((rowsF rows.length rows.length).map fun r => (r, U.mapOf many rows r)) [] []
  rw [h1, h3]
  rfl
theorem maps_nrm (S : SysOk many rows) (L : OnlyLast many rows) {run : List Int} (hr : RunOk rows run) : lookP (mapsF many rows) (U.mapOf many rows run) = some (nrm many rows run) := by
  rw [maps_look]
  obtain ⟨h1, h2, h3⟩ := nrm_map S L hr
  have hf := nrm_first S L hr
  have hn := first_nodup S L h1 hf
  have hmem := mem_rows h1 hn
  have hp : (nrm many rows run, U.mapOf many rows (nrm many rows run)) ∈ (rowsF rows.length rows.length).map fun r => (r, U.mapOf many rows r) := List.mem_map.mpr ⟨_, hmem, rfl⟩
  have hs : ((rowsF rows.length rows.length).map fun r => (r, U.mapOf many rows r)).Pairwise fun p q => ltR p.1 q.1 := by
    rw [List.pairwise_map]
    exact rows_sort _ _
  cases hl : lookP ((rowsF rows.length rows.length).map fun r => (r, U.mapOf many rows r)) (U.mapOf many rows run) with
  | none => exact absurd ⟨_, hp, h3⟩ (look_none.mp hl)
  | some r =>
    rcases look_first hs hl hp h3 with z | z
    · rw [z]
    · exfalso
      obtain ⟨r2, h5, h6⟩ := List.mem_map.mp (look_mem hl)
      injection h6 with h6 h7
      subst h6
      exact hf r2 (fun z hz => (rowsF_mem _ _ r2 h5).2.2 z hz) (h7.trans h3.symm) z
end
end H
namespace H
set_option autoImplicit false
open PySem L2 U
/-! ### _law_last -/
def b_law_last : SF :=
    (sRet (opN dTuple [(.val (fLc [1, 2] (fEnum (fVar 0)) (gT [(gN 1), (gN 2)]) (tOp2 dNotIn (.var 2) (.val (fSl (.var 0) (some (op2 dAdd (.var 1) (.val (fC (.int 1))))) none))) (fVar 2)))]))
def d_law_last : FD := runF 1 3 false b_law_last
theorem last_nat : ∀ l : List Int, ((List.range l.length).filter (fun j => !decide (l.getD j 0 ∈ l.drop (j + 1)))).map (fun j => l.getD j 0) = lastT l
  | [] => rfl
  | x :: l => by
    rw [List.length_cons, List.range_succ_eq_map, List.filter_cons]
    have ih := last_nat l
    have e : ((List.map Nat.succ (List.range l.length)).filter (fun j => !decide ((x :: l).getD j 0 ∈ (x :: l).drop (j + 1)))).map (fun j => (x :: l).getD j 0) = lastT l := by
      rw [List.filter_map, List.map_map, ← ih]
      rfl
    rw [lastT_cons]
    have e0 : (x :: l).getD 0 0 = x := rfl
    have e1 : (x :: l).drop (0 + 1) = l := rfl
    rw [e0, e1]
    by_cases h : x ∈ l
    · rw [if_pos h, decide_eq_true h, if_neg (by simp), e]
    · rw [if_neg h, decide_eq_false h, if_pos (show (!false) = true from rfl), List.map_cons, e]; rfl
def lstP (l : List Int) : D → Bool
  | .tup [.int j, _] => !decide (l.getD j.toNat 0 ∈ l.drop (j.toNat + 1))
  | _ => false
def lstG : D → D
  | .tup [_, d] => d
  | _ => .non
theorem lawLast_ok {run : List Int} (hl : run.length ≤ 1000) : d_law_last [iT run] = .ok (false, iT (lastT run), []) := by
  have hfi : fEnum (fVar 0) [some (false, iT run), none, none] = .ok ((ups run.length).map (fun j => .tup [.int j, .int (run.getD j.toNat 0)]), [some (false, iT run), none, none]) := by
    rw [← en_ints]
    simp
    rfl
  have hc := fLc_filter (vs := [1, 2]) (t := gT [(gN 1), (gN 2)]) (cs := tOp2 dNotIn (.var 2) (.val (fSl (.var 0) (some (op2 dAdd (.var 1) (.val (fC (.int 1))))) none))) (f := fVar 2) (lstP run) lstG hfi rfl (by rw [List.length_map, ups_len]; omega) fun x hx => by
    obtain ⟨b, hb, rfl⟩ := List.mem_map.mp hx
    have hb := ups_mem hb
    have hn := v_notInT (run.getD b.toNat 0) (run.drop (b.toNat + 1))
    have hlp : lstP run (.tup [.int b, .int (run.getD b.toNat 0)]) = !decide (run.getD b.toNat 0 ∈ run.drop (b.toNat + 1)) := rfl
    rw [hlp]
    have hsl := sl_frT (run.map .int) (b.toNat + 1) (by rw [List.length_map]; omega)
    have hbn : ((b.toNat + 1 : Nat) : Int) = b + 1 := by omega
    rw [hbn, ← List.map_drop] at hsl
    have ha : dAdd (.int b) (.int 1) = some (false, .int (b + 1)) := rfl
    generalize b + 1 = b1 at hsl ha
    generalize run.getD b.toNat 0 = v at hn ⊢
    refine ⟨[some (false, iT run), some (false, .int b), some (false, .int v)], [some (false, iT run), some (false, .int b), some (false, .int v)], rfl, ?_, fun _ => rfl, fun _ => ⟨false, _, rfl, rfl⟩⟩
    show tOp2 dNotIn (.var 2) _ [some (false, .tup (run.map .int)), some (false, .int b), some (false, .int v)] = .ok (_, [some (false, .tup (run.map .int)), some (false, .int b), some (false, .int v)])
    generalize D.tup ((run.drop (b.toNat + 1)).map .int) = R1 at hn hsl
    generalize D.tup (run.map .int) = R at hsl ⊢
    generalize decide (v ∈ run.drop (b.toNat + 1)) = q at hn ⊢
    simp [ha, hsl, hn, fSlP]
  have e : (((ups run.length).map (fun j => D.tup [.int j, .int (run.getD j.toNat 0)])).filter (lstP run)).map lstG = (lastT run).map .int := by
    rw [List.filter_map, List.map_map, ← last_nat, List.map_map]
    unfold ups
    rw [List.filter_map, List.map_map]
    congr 1
  rw [e] at hc
  unfold d_law_last b_law_last
  rw [run1]
  simp only [List.replicate]
  show finF false (sRet _ _) = _
  rw [r_ret, r_opN, r_evs1, r_pv, hc]
  rfl
/-! ### _law_maps -/
def b_law_maps : SF :=
    (sSeq (sSet 1 fDic0)
    (sSeq (sFor (fIt (fCall d_law_rows [(.val (opN dLen [(.val (op2 dIx (.var 0) (.val (fC (.int 1)))))])), (.val (opN dLen [(.val (op2 dIx (.var 0) (.val (fC (.int 1)))))]))])) (gN 2)
    (sSeq (sSet 3 (fCall d_law_map [(.var 0), (.var 2)]))
    (sIf (tOp2 dNotIn (.var 3) (.var 1))
    (sDx 1 (fVar 3) (fVar 2))
    sNil)))
    (sRet (fMv 1))))
def d_law_maps : FD := runF 1 4 false b_law_maps
section
variable {many : Int} {rows : List (List Int)}
abbrev bodyM : SF := (sSeq (sSet 3 (fCall d_law_map [(.var 0), (.var 2)]))
    (sIf (tOp2 dNotIn (.var 3) (.var 1))
    (sDx 1 (fVar 3) (fVar 2))
    sNil))
theorem bodyM_ok (S : SysOk many rows) {F : List (List Int × List Int)} {r : List Int} (hr : RunOk rows r) (hF : F.length < 16777216) (a3 : Option (Bool × D)) :
    ∃ a3', bodyM [some (false, sysD many rows), some (true, .dic (kyP F) (vlP F)), some (false, iT r), a3] = .ok (.nx, [some (false, sysD many rows), some (true, .dic (kyP (addF (F, []) (r, U.mapOf many rows r)).1) (vlP (addF (F, []) (r, U.mapOf many rows r)).1)), some (false, iT r), a3']) ∧ (addF (F, []) (r, U.mapOf many rows r)).1.length ≤ F.length + 1 := by
  have hm := lawMap_ok S hr
  refine ⟨some (false, iT (U.mapOf many rows r)), ?_⟩
  generalize hmm : U.mapOf many rows r = m' at hm
  have e0 : sSet 3 (fCall d_law_map [(.var 0), (.var 2)]) [some (false, sysD many rows), some (true, .dic (kyP F) (vlP F)), some (false, iT r), a3] = .ok (.nx, [some (false, sysD many rows), some (true, .dic (kyP F) (vlP F)), some (false, iT r), some (false, iT m')]) := by
    simp [q_lawMap, hm]
  unfold bodyM
  rw [r_seq, e0, O.bind_ok]
  dsimp only
  have hn := notIn_P F m'
  cases hl : lookP F m' with
  | some r' =>
    rw [hl] at hn
    have hn : dNotIn (iT m') (.dic (kyP F) (vlP F)) = some false := hn
    rw [addF_some (c := (r, m')) hl]
    refine ⟨?_, by simp⟩
    dsimp only
    generalize kyP F = ky at hn ⊢
    generalize vlP F = vl at hn ⊢
    simp [hn]
  | none =>
    rw [hl] at hn
    have hn : dNotIn (iT m') (.dic (kyP F) (vlP F)) = some true := hn
    have hst := sto_P (r := r) (look_none.mp hl) hF
    rw [addF_none (c := (r, m')) hl]
    refine ⟨?_, by simp⟩
    dsimp only
    generalize kyP (F ++ [(r, m')]) = ky' at hst ⊢
    generalize vlP (F ++ [(r, m')]) = vl' at hst ⊢
    generalize kyP F = ky at hn hst ⊢
    generalize vlP F = vl at hn hst ⊢
    simp [hn, hst]
theorem loopM_ok (S : SysOk many rows) : ∀ (l : List (List Int)) (F : List (List Int × List Int)) (a2 a3 : Option (Bool × D)), (∀ r ∈ l, RunOk rows r) → F.length + l.length < 16777216 →
    ∃ a2' a3', forL (gN 2) bodyM (l.map iT) [some (false, sysD many rows), some (true, .dic (kyP F) (vlP F)), a2, a3] = .ok (.nx, [some (false, sysD many rows), some (true, .dic (kyP ((l.map fun r => (r, U.mapOf many rows r)).foldl (fun F c => (addF (F, []) c).1) F)) (vlP ((l.map fun r => (r, U.mapOf many rows r)).foldl (fun F c => (addF (F, []) c).1) F))), a2', a3'])
  | [], F, a2, a3, _, _ => ⟨a2, a3, rfl⟩
  | r :: l, F, a2, a3, hr, hl => by
    rw [List.length_cons] at hl
    obtain ⟨a3', e, hlen⟩ := bodyM_ok S (hr r List.mem_cons_self) (F := F) (by omega) a3
    obtain ⟨b2, b3, e2⟩ := loopM_ok S l (addF (F, []) (r, U.mapOf many rows r)).1 (some (false, iT r)) a3' (fun z hz => hr z (List.mem_cons_of_mem _ hz)) (by omega)
    refine ⟨b2, b3, ?_⟩
    rw [List.map_cons]
    unfold forL
    show (bodyM [some (false, sysD many rows), some (true, .dic (kyP F) (vlP F)), some (false, iT r), a3]).bind _ = _
    rw [e, O.bind_ok]
    exact e2
theorem lawMaps_ok (S : SysOk many rows) (h6 : rows.length ≤ 6) : d_law_maps [sysD many rows] = .ok (true, .dic (kyP (mapsF many rows)) (vlP (mapsF many rows)), []) := by
  have hrw := rows_ok rows.length rows.length h6 h6
  have hlen : dLen [.tup (rows.map iT)] = some (false, .int rows.length) := by rw [v_lenT, List.length_map]
  have hll := rowsF_len h6 rows.length h6
  obtain ⟨b2, b3, e2⟩ := loopM_ok S (rowsF rows.length rows.length) [] none none (fun r hr z hz => (rowsF_mem _ _ r hr).2.2 z hz) (by
    have : (rows.length + 1) * 46656 ≤ 7 * 46656 := Nat.mul_le_mul_right _ (by omega)
    rw [List.length_nil]; omega)
  have e0 : sSet 1 fDic0 [some (false, sysD many rows), none, none, none] = .ok (.nx, [some (false, sysD many rows), some (true, .dic (kyP []) (vlP [])), none, none]) := rfl
  have hfi : fIt (fCall d_law_rows [(.val (opN dLen [(.val (op2 dIx (.var 0) (.val (fC (.int 1)))))])), (.val (opN dLen [(.val (op2 dIx (.var 0) (.val (fC (.int 1)))))]))]) [some (false, sysD many rows), some (true, .dic (kyP []) (vlP [])), none, none] = .ok ((rowsF rows.length rows.length).map iT, [some (false, sysD many rows), some (true, .dic (kyP []) (vlP [])), none, none]) := by
    have h3 := v_sys1 many rows
    have him := imm_rowsL (rowsF rows.length rows.length)
    generalize (rows.length : Int) = nn at hrw hlen
    generalize (rowsF rows.length rows.length).map iT = RL at hrw him ⊢
    generalize hR : D.tup (rows.map iT) = R at hlen h3
    simp [h3, hlen, hrw, him, -v_sys1]
  unfold d_law_maps
  rw [run1]
  simp only [List.replicate]
  show finF false (sSeq _ (sSeq (sFor _ _ bodyM) _) _) = _
  rw [r_seq, e0, O.bind_ok]
  dsimp only
  rw [r_seq, r_for, hfi, O.bind_ok, e2, O.bind_ok]
  dsimp only
  have e : (mapsF many rows) = ((rowsF rows.length rows.length).map fun r => (r, U.mapOf many rows r)).foldl (fun F c => (addF (F, []) c).1) [] := rfl
  rw [← e]
  generalize kyP (mapsF many rows) = ky
  generalize vlP (mapsF many rows) = vl
  simp [finF, outs]
end
end H
namespace H
set_option autoImplicit false
open PySem L2 U
theorem len_iT (l : List Int) : dLen [iT l] = some (false, .int l.length) := by
  show dLen [.tup (l.map .int)] = _
  rw [v_lenT, List.length_map]
/-! ### the frame that most laws have -/
theorem law_frame {body : SF} {n : Nat} {c1 c2 : Int} (ns : List Int) (I : En → Prop) (hc1 : 0 ≤ c1 ∧ c1 ≤ 500) (hc2 : 0 ≤ c2 ∧ c2 ≤ 500) (h0 : I (List.replicate n none))
    (hb : ∀ (k : Int) (rest : En), 0 ≤ k → k < 1000 → I rest → (body (some (false, .scr ns) :: some (false, .int k) :: rest)).wp fun r => r.1 = .nx ∧ ∃ a1 rest', r.2 = some (false, .scr ns) :: a1 :: rest' ∧ I rest') :
    Yes (runF 1 (n + 2) false (sSeq (sFor (fRg rg1 [(.val (opN dMax2 [(.val (fC (.int c1))), (.val (opN dMin2 [(.val (opN dLen [(.var 0)])), (.val (fC (.int c2)))]))]))]) (gN 1) body) (sRet (fC (.bl true))))) ns := by
  have loop : ∀ (ks : List Int) (ρ : En), (∀ k ∈ ks, 0 ≤ k ∧ k < 1000) → (∃ a1 rest, ρ = some (false, .scr ns) :: a1 :: rest ∧ I rest) → (forL (gN 1) body (ks.map .int) ρ).wp fun r => r.1 = .nx ∧ ∃ a1 rest, r.2 = some (false, .scr ns) :: a1 :: rest ∧ I rest := by
    intro ks ρ hk h
    refine forL_wp (fun l ρ => (∃ ks' : List Int, l = ks'.map .int ∧ ∀ k ∈ ks', 0 ≤ k ∧ k < 1000) ∧ ∃ a1 rest, ρ = some (false, .scr ns) :: a1 :: rest ∧ I rest) (fun d ds ρ hI => ?_) (fun ρ hI => ⟨rfl, hI.2⟩) _ _ ⟨⟨ks, rfl, hk⟩, h⟩
    obtain ⟨⟨ks', e, h1⟩, a1, rest, rfl, hi⟩ := hI
    cases ks' with
    | nil => cases e
    | cons k ks' =>
      rw [List.map_cons] at e
      cases e
      have hk := h1 k List.mem_cons_self
      refine ⟨_, rfl, O.wp_mono (hb k rest hk.1 hk.2 hi) fun r h => ?_⟩
      rw [h.1]
      exact ⟨⟨ks', rfl, fun z hz => h1 z (List.mem_cons_of_mem _ hz)⟩, h.2⟩
  have hmx : ∃ m : Int, opN dMax2 [(.val (fC (.int c1))), (.val (opN dMin2 [(.val (opN dLen [(.var 0)])), (.val (fC (.int c2)))]))] (some (false, .scr ns) :: none :: List.replicate n none) = .ok (false, .int m, some (false, .scr ns) :: none :: List.replicate n none) ∧ 0 ≤ m ∧ m ≤ 500 := by
    refine ⟨_, by simp; rfl, ?_, ?_⟩ <;> (repeat' split) <;> omega
  obtain ⟨m, em, m0, m1⟩ := hmx
  obtain ⟨⟨fl, ρ⟩, e, h1, h2⟩ := O.wp_ex (loop (ups m.toNat) (some (false, .scr ns) :: none :: List.replicate n none) (fun k hk => by have := ups_mem hk; omega) ⟨none, _, rfl, h0⟩)
  cases h1
  refine ⟨false, [], ?_⟩
  rw [run1]
  have er : (some (false, D.scr ns) :: List.replicate (n + 2 - 1) (none : Option (Bool × D))) = some (false, .scr ns) :: none :: List.replicate n none := rfl
  rw [er]
  simp only [r_seq, r_for, r_rg, r_evs1, r_pv, em]
  simp [rg1_ok m0 (by omega), e, finF, outs]
theorem sys_frame {body : SF} {most : Int} (ns : List Int) (J : En → Prop) (hm : 2 ≤ most ∧ most ≤ 1000)
    (hb : ∀ (k : Int) (es : List D) (many : Int) (rows : List (List Int)) (tail : En), 0 ≤ k → k < 1000 → BxI es → Drw many rows → many ≤ most → J tail → (body (some (false, .scr ns) :: some (false, .int k) :: some (true, .lst es) :: some (false, sysD many rows) :: tail)).wp fun r => r.1 = .nx ∧ ∃ a1 a2 a3 tail', r.2 = some (false, .scr ns) :: a1 :: a2 :: a3 :: tail' ∧ J tail') (k : Int) (rest : En) (hk0 : 0 ≤ k) (hk : k < 1000) (hr : ∃ a2 a3 tail, rest = a2 :: a3 :: tail ∧ J tail) :
    ((sSeq (sSet 2 (fCall lawBox [(.var 0), (.var 1)])) (sSeq (sSet 3 (fCallIO d_law_system 2 [(.val (fC (.int most)))])) body)) (some (false, .scr ns) :: some (false, .int k) :: rest)).wp fun r => r.1 = .nx ∧ ∃ a1 rest', r.2 = some (false, .scr ns) :: a1 :: rest' ∧ ∃ a2 a3 tail, rest' = a2 :: a3 :: tail ∧ J tail := by
  obtain ⟨a2, a3, tail, rfl, hj⟩ := hr
  obtain ⟨es, e0, hb0, hi0⟩ := box_ok ns k hk0 hk
  refine seq_set (fr := true) (d := .lst es) (ρ' := some (false, .scr ns) :: some (false, .int k) :: a2 :: a3 :: tail) (by simp [e0, hi0]) ?_
  obtain ⟨es1, many, rows, e1, hb1, hD, hmm⟩ := H.system_ok ⟨hb0, hi0⟩ (most := most) hm.1 hm.2
  have himm := imm_sys many rows
  have himm1 := hb1.2
  refine seq_set (fr := false) (d := sysD many rows) (ρ' := some (false, .scr ns) :: some (false, .int k) :: some (true, .lst es1) :: a3 :: tail) (by simp [e1, himm, himm1]) ?_
  refine O.wp_mono (hb k es1 many rows tail hk0 hk hb1 hD hmm hj) fun r h => ?_
  obtain ⟨h1, c1, c2, c3, tail', h2, h3⟩ := h
  exact ⟨h1, c1, _, h2, c2, c3, tail', rfl, h3⟩
end H
namespace H
set_option autoImplicit false
open PySem L2 U
/-! ### rows sorted by size -/
def keyS (r : List Int) : D := .tup [.int r.length, iT r]
def leS (r s : List Int) : Bool := leD (keyS r) (keyS s)
theorem alike_ii (i j : Int) : PySem.W.alike (.int i) (.int j) = true := by simp [PySem.W.alike]
theorem alike_keyS (r s : List Int) : PySem.W.alike (keyS r).py (keyS s).py = true := by
  show PySem.W.alike (.tuple [.int r.length, (iT r).py]) (.tuple [.int s.length, (iT s).py]) = true
  rw [py_iT, py_iT, alike_two, alike_tints, alike_ii]; rfl
theorem leS_iff (r s : List Int) : leS r s = true ↔ ¬ ltR s r := by
  show (!PySem.W.dataLt (.tuple [.int s.length, (iT s).py]) (.tuple [.int r.length, (iT r).py])) = true ↔ _
  rw [py_iT, py_iT, PySem.W.dataLt_pair (alike_ii _ _) (alike_tints _ _), dlt_ints, PySem.W.dataLt_int]
  have e1 : PyData.eqv (.int (s.length : Int)) (.int (r.length : Int)) = decide (s.length = r.length) := by
    unfold PyData.eqv
    by_cases h : s.length = r.length
    · rw [h]; simp
    · rw [decide_eq_false h]; simp; omega
  have e2 : PyData.eqv (.tuple (s.map .int)) (.tuple (r.map .int)) = decide (s = r) := by
    unfold PyData.eqv
    exact eqv_ints _ _
  rw [e1, e2]
  unfold ltR
  by_cases h : s.length = r.length
  · rw [decide_eq_true h, if_pos rfl]
    by_cases h2 : s = r
    · subst h2
      simp [List.lt_irrefl]
    · rw [decide_eq_false h2, if_neg Bool.false_ne_true]
      simp [h]
  · rw [decide_eq_false h, if_neg Bool.false_ne_true]
    simp [h]
theorem leS_trans (a b c : List Int) (h : leS a b = true) (h' : leS b c = true) : leS a c = true := by
  rw [leS_iff] at h h' ⊢
  intro z
  rcases ltR_tri a b with q | q | q
  · exact h' (ltR_trans z q)
  · rw [q] at z; exact h' z
  · exact h q
theorem leS_total (a b : List Int) : (leS a b || leS b a) = true := by
  rw [Bool.or_eq_true, leS_iff, leS_iff]
  rcases ltR_tri a b with q | q | q
  · exact .inl fun z => ltR_irr _ (ltR_trans z q)
  · rw [q]; exact .inl (ltR_irr _)
  · exact .inr fun z => ltR_irr _ (ltR_trans z q)
theorem leS_anti {a b : List Int} (h : leS a b = true) (h' : leS b a = true) : a = b := by
  rw [leS_iff] at h h'
  rcases ltR_tri a b with q | q | q
  · exact absurd q h'
  · exact q
  · exact absurd q h
theorem sortS_eq {l l' : List (List Int)} (hl : l.Nodup) (hl' : l'.Nodup) (h : ∀ r, r ∈ l ↔ r ∈ l') : l.mergeSort leS = l'.mergeSort leS :=
  List.Perm.eq_of_pairwise (le := fun a b => leS a b = true) (fun a b _ _ => leS_anti) (List.pairwise_mergeSort leS_trans leS_total l) (List.pairwise_mergeSort leS_trans leS_total l')
    ((List.mergeSort_perm l leS).trans (((List.perm_ext_iff_of_nodup hl hl').mpr h).trans (List.mergeSort_perm l' leS).symm))
theorem okT_iT (r : List Int) (n : Nat) : D.okT (n + 1) (iT r) = true := by
  show (r.map D.int).all (D.okT n) = true
  rw [List.all_eq_true]
  intro d hd
  obtain ⟨z, _, rfl⟩ := List.mem_map.mp hd
  cases n <;> rfl
theorem okT_keyS (r : List Int) : D.okT 60 (keyS r) = true := by
  show ([D.int r.length, iT r].all (D.okT 59)) = true
  rw [List.all_cons, List.all_cons, okT_iT]
  rfl
def b_by_size : SF :=
    (sRet (fTup [(opN dLen [(.var 0)]), (fVar 0)]))
def d_by_size : FD := runF 1 1 false b_by_size
theorem bySize_ok (r : List Int) : d_by_size [iT r] = .ok (false, keyS r, []) := by
  have hl := len_iT r
  unfold d_by_size b_by_size
  rw [run1]
  show finF false (sRet _ [some (false, iT r)]) = _
  unfold keyS
  generalize (r.length : Int) = n at hl ⊢
  simp [hl, finF, outs]
theorem keyD_by (r : List Int) : keyD d_by_size (iT r) = keyS r := by unfold keyD; rw [bySize_ok]
theorem sortK_rows {l : List (List Int)} (hl : l.length ≤ 16777216) : dSortK d_by_size [.lst (l.map iT)] = some (true, .lst ((l.mergeSort leS).map iT)) := by
  unfold dSortK
  dsimp only
  have hk : okSortK d_by_size (l.map iT) = true := by
    unfold okSortK
    simp only [Bool.and_eq_true, decide_eq_true_eq, List.length_map]
    refine ⟨⟨⟨?_, ?_⟩, ?_⟩, hl⟩
    · rw [List.all_eq_true]
      intro d hd
      obtain ⟨r, _, rfl⟩ := List.mem_map.mp hd
      exact okT_iT r 59
    · rw [List.all_eq_true]
      intro d hd
      obtain ⟨r, _, rfl⟩ := List.mem_map.mp hd
      unfold okKey
      rw [bySize_ok]
      dsimp only
      rw [okT_keyS]; rfl
    · rw [List.all_eq_true]
      intro d hd
      obtain ⟨r, _, rfl⟩ := List.mem_map.mp hd
      rw [List.all_eq_true]
      intro d hd
      obtain ⟨s, _, rfl⟩ := List.mem_map.mp hd
      rw [keyD_by, keyD_by]
      exact alike_keyS r s
  rw [if_pos hk, List.map_mergeSort (r := leS) (s := leK d_by_size) (f := iT) (fun a _ b _ => by unfold leK leS; rw [keyD_by, keyD_by])]
theorem good_keyS (r : List Int) : (keyS r).good = true := okT_okN 60 _ (okT_keyS r)
theorem sorted_keys {l : List (List Int)} (hl : l.length ≤ 16777216) : dSorted [.lst (l.map keyS)] = some (true, .lst ((l.mergeSort leS).map keyS)) := by
  unfold dSorted
  dsimp only
  cases l with
  | nil => simp [intsD, sortI, List.mergeSort_nil]
  | cons p L =>
    have : intsD ((p :: L).map keyS) = none := rfl
    rw [this]
    dsimp only
    have hk : okSort ((p :: L).map keyS) = true := by
      unfold okSort
      simp only [Bool.and_eq_true, decide_eq_true_eq, List.length_map]
      refine ⟨⟨⟨?_, ?_⟩, ?_⟩, hl⟩
      · rw [List.all_eq_true]
        intro d hd
        obtain ⟨r, _, rfl⟩ := List.mem_map.mp hd
        exact good_keyS r
      · rw [List.all_eq_true]
        intro d hd
        obtain ⟨r, _, rfl⟩ := List.mem_map.mp hd
        rfl
      · rw [List.all_eq_true]
        intro d hd
        obtain ⟨r, _, rfl⟩ := List.mem_map.mp hd
        rw [List.all_eq_true]
        intro d hd
        obtain ⟨s, _, rfl⟩ := List.mem_map.mp hd
        exact alike_keyS r s
    rw [if_pos hk, List.map_mergeSort (r := leS) (s := leD) (f := keyS) (fun _ _ _ _ => rfl)]
/-! ### all normal runs -/
section
variable {many : Int} {rows : List (List Int)}
theorem dist_fst {F : List (List Int × List Int)} {n : Nat} (h : F.Pairwise fun p q => p.2 ≠ q.2) (v : Vld many rows n F) : (F.map (·.1)).Nodup := by
  unfold List.Nodup
  rw [List.pairwise_map]
  refine h.imp_of_mem fun {p q} hp hq hne e => hne ?_
  rw [(v p hp).2.2, (v q hq).2.2, e]
theorem look_dist {F : List (List Int × List Int)} (h : F.Pairwise fun p q => p.2 ≠ q.2) {p : List Int × List Int} (hp : p ∈ F) : lookP F p.2 = some p.1 := by
  induction F with
  | nil => cases hp
  | cons q F ih =>
    rw [List.pairwise_cons] at h
    rcases List.mem_cons.mp hp with e | e
    · rw [e, lookP_hit rfl]
    · rw [lookP_miss (h.1 p e), ih h.2 e]
theorem maps_vld : Vld many rows rows.length (mapsF many rows) ∧ (mapsF many rows).Pairwise fun p q => p.2 ≠ q.2 := by
  unfold mapsF
  rw [← addF_fst _ [] []]
  obtain ⟨X, h1, h2, h3⟩ := addF_spec ((rowsF rows.length rows.length).map fun r => (r, U.mapOf many rows r)) [] []
  refine ⟨fun p hp => ?_, addF_dist _ _ _ .nil⟩
  rw [h1] at hp
  obtain ⟨r, hr, rfl⟩ := List.mem_map.mp (h2 p (by simpa using hp)).1
  have := rowsF_mem _ _ r hr
  exact ⟨this.1, this.2.2, rfl⟩
theorem mem_maps (S : SysOk many rows) (L : OnlyLast many rows) (r : List Int) : r ∈ (mapsF many rows).map (·.1) ↔ RunOk rows r ∧ First many rows r := by
  have hv := maps_vld (many := many) (rows := rows)
  constructor
  · intro h
    obtain ⟨p, hp, rfl⟩ := List.mem_map.mp h
    obtain ⟨_, v2, v3⟩ := hv.1 p hp
    have h1 := look_dist hv.2 hp
    rw [v3, maps_nrm S L v2] at h1
    have h1 := Option.some.inj h1
    refine ⟨v2, ?_⟩
    rw [← h1]
    exact nrm_first S L v2
  · rintro ⟨h1, h2⟩
    have h3 := maps_nrm S L h1
    rw [nrm_of_first S L h1 h2] at h3
    exact List.mem_map.mpr ⟨_, look_mem h3, rfl⟩
theorem mem_nr (S : SysOk many rows) (L : OnlyLast many rows) (r : List Int) : r ∈ (nrF many rows).map (·.1) ↔ RunOk rows r ∧ First many rows r := by
  constructor
  · intro h
    obtain ⟨p, hp, rfl⟩ := List.mem_map.mp h
    exact ⟨((bfs_vld rows.length).1 p hp).2.1, (bf_all rows.length).first p hp⟩
  · rintro ⟨h1, h2⟩
    obtain ⟨r', k1, _⟩ := nr_look S L h1
    have : nrm many rows r = r' := by unfold nrm; rw [k1]; rfl
    rw [nrm_of_first S L h1 h2] at this
    rw [← this] at k1
    exact List.mem_map.mpr ⟨_, look_mem k1, rfl⟩
/-- all normal runs, by size -/
def allR (many : Int) (rows : List (List Int)) : List (List Int) := ((mapsF many rows).map (·.1)).mergeSort leS
theorem allR_mem (S : SysOk many rows) (L : OnlyLast many rows) (r : List Int) : r ∈ allR many rows ↔ RunOk rows r ∧ First many rows r := by
  unfold allR
  rw [List.mem_mergeSort, mem_maps S L]
theorem nr_sorted (S : SysOk many rows) (L : OnlyLast many rows) : ((nrF many rows).map (·.1)).mergeSort leS = allR many rows :=
  sortS_eq (dist_fst (bf_all rows.length).dist (bfs_vld rows.length).1) (dist_fst maps_vld.2 maps_vld.1) fun r => by rw [mem_nr S L, mem_maps S L]
theorem maps_len (h6 : rows.length ≤ 6) : (mapsF many rows).length ≤ 326592 := by
  have h1 : (mapsF many rows).length ≤ (rowsF rows.length rows.length).length := by
    unfold mapsF
    have key : ∀ (C F : List (List Int × List Int)), (C.foldl (fun F c => (addF (F, []) c).1) F).length ≤ F.length + C.length := by
      intro C
      induction C with
      | nil => intro F; exact Nat.le_refl _
      | cons c C ih =>
        intro F
        rw [List.foldl_cons, List.length_cons]
        have h2 := ih (addF (F, []) c).1
        have h3 : (addF (F, []) c).1.length ≤ F.length + 1 := by
          unfold addF
          split <;> simp
        omega
    have := key ((rowsF rows.length rows.length).map fun r => (r, U.mapOf many rows r)) []
    simpa using this
  have h2 := rowsF_len h6 rows.length h6
  have : (rows.length + 1) * 46656 ≤ 7 * 46656 := Nat.mul_le_mul_right _ (by omega)
  omega
def b_all_runs : SF :=
    (sRet (opN dTuple [(.val (opN (dSortK d_by_size) [(.val (op1 dVals (.val (fCall d_normal_runs [(.var 0)]))))]))]))
def d_all_runs : FD := runF 1 1 false b_all_runs
theorem allRuns_ok (S : SysOk many rows) (L : OnlyLast many rows) (h6 : rows.length ≤ 6) : d_all_runs [sysD many rows] = .ok (false, .tup ((allR many rows).map iT), []) := by
  have h1 := normalRuns_ok S h6
  have hb := bfs_len (many := many) h6 rows.length
  have hp : 6 ^ rows.length ≤ 6 ^ 6 := Nat.pow_le_pow_right (by decide) h6
  have hp6 : (6 : Nat) ^ 6 = 46656 := by decide
  have hs := sortK_rows (l := (nrF many rows).map (·.1)) (by rw [List.length_map]; unfold nrF; omega)
  rw [nr_sorted S L] at hs
  have hv : dVals (.dic (kyP (nrF many rows)) (vlP (nrF many rows))) = some (true, .lst (((nrF many rows).map (·.1)).map iT)) := by
    unfold dVals vlP
    rw [List.map_map]; rfl
  generalize kyP (nrF many rows) = ky at h1 hv
  generalize vlP (nrF many rows) = vl at h1 hv
  generalize ((nrF many rows).map (·.1)).map iT = v2 at hs hv
  have him := imm_rowsL (allR many rows)
  generalize (allR many rows).map iT = aa at hs him ⊢
  unfold d_all_runs b_all_runs
  rw [run1]
  show finF false (sRet _ [some (false, sysD many rows)]) = _
  simp [h1, hv, hs, finF, outs, D.calm, frzAll, him]
end
end H
namespace H
set_option autoImplicit false
open PySem L2 U
/-! ### range(a, b) -/
def rgI (a : Int) (n : Nat) : List Int := (List.range n).map fun i => a + (i : Nat)
theorem rgI_mem {a z : Int} {n : Nat} : z ∈ rgI a n ↔ a ≤ z ∧ z < a + n := by
  unfold rgI
  rw [List.mem_map]
  constructor
  · rintro ⟨i, hi, rfl⟩
    have := List.mem_range.mp hi
    omega
  · rintro ⟨h1, h2⟩
    exact ⟨(z - a).toNat, List.mem_range.mpr (by omega), by omega⟩
theorem rg2_ok {a b : Int} (ha : a.natAbs < 4611686018427387904) (hb : b.natAbs < 4611686018427387904) : rg2 [.int a, .int b] = some ((rgI a (b - a).toNat).map .int) := by
  unfold rg2
  dsimp only
  have h1 : small62 a = true := decide_eq_true ha
  have h2 : small62 b = true := decide_eq_true hb
  rw [h1, h2]
  unfold rgD rgI
  rw [List.map_map]
  simp
/-! ### the least pair that is kept apart -/
def inA (m : List Int) (one : Int) (l : List Int) : Option Int := l.find? fun o => !decide (m.getD one.toNat 0 = m.getD o.toNat 0)
def outA (m : List Int) (n : Int) (ks : List Int) : Option (Int × Int) := ks.findSome? fun one => (inA m one (rgI (one + 1) (n - (one + 1)).toNat)).map fun o => (one, o)
def apF (m : List Int) (n : Int) : Option (Int × Int) := outA m n (ups n.toNat)
def prA : Option (Int × Int) → D
  | none => .non
  | some (a, b) => .tup [.int a, .int b]
theorem dIsN_prA (o : Option (Int × Int)) : dIsN (prA o) .non = some o.isNone := by
  cases o with
  | none => rfl
  | some p => rfl
theorem apF_none {m : List Int} {n : Int} (h0 : 0 ≤ n) (hl : (m.length : Int) = n) : apF m n = none ↔ ∀ x ∈ m, ∀ y ∈ m, x = y := by
  unfold apF outA
  rw [List.findSome?_eq_none_iff]
  have hin : ∀ one : Int, (inA m one (rgI (one + 1) (n - (one + 1)).toNat)).map (fun o => (one, o)) = none ↔ ∀ o, one < o → o < n → m.getD one.toNat 0 = m.getD o.toNat 0 := fun one => by
    rw [Option.map_eq_none_iff]
    unfold inA
    rw [List.find?_eq_none]
    constructor
    · intro h o h1 h2
      have := h o (rgI_mem.mpr ⟨by omega, by omega⟩)
      simpa using this
    · intro h o ho
      have := rgI_mem.mp ho
      simpa using h o (by omega) (by omega)
  constructor
  · intro h x hx y hy
    obtain ⟨i, hi, rfl⟩ := List.mem_iff_getElem.mp hx
    obtain ⟨j, hj, rfl⟩ := List.mem_iff_getElem.mp hy
    have key : ∀ i j : Nat, i < j → (hj : j < m.length) → (hi : i < m.length) → m[i] = m[j] := fun i j hij hj hi => by
      have := (hin i).mp (h i (ups_in (by omega) (by omega))) j (by omega) (by omega)
      simpa [hi, hj] using this
    rcases Nat.lt_trichotomy i j with q | q | q
    · exact key i j q hj hi
    · subst q; rfl
    · exact (key j i q hi hj).symm
  · intro h one ho
    have ho := ups_mem ho
    rw [hin]
    intro o h1 h2
    have e1 : m.getD one.toNat 0 = m[one.toNat]'(by omega) := by rw [List.getD_eq_getElem?_getD, List.getElem?_eq_getElem (by omega)]; rfl
    have e2 : m.getD o.toNat 0 = m[o.toNat]'(by omega) := by rw [List.getD_eq_getElem?_getD, List.getElem?_eq_getElem (by omega)]; rfl
    rw [e1, e2]
    exact h _ (List.getElem_mem _) _ (List.getElem_mem _)
def b_forgets : SF :=
    (sSeq (sSet 2 (fCall d_run_map [(.var 0), (.var 1)]))
    (sSeq (sFor (fRg rg1 [(.val (op2 dIx (.var 0) (.val (fC (.int 0)))))]) (gN 3)
    (sFor (fRg rg2 [(.val (op2 dAdd (.var 3) (.val (fC (.int 1))))), (.val (op2 dIx (.var 0) (.val (fC (.int 0)))))]) (gN 4)
    (sIf (tOp2 dNe (.val (op2 dIx (.var 2) (.var 3))) (.val (op2 dIx (.var 2) (.var 4))))
    (sRet (fTup [(fVar 3), (fVar 4)]))
    sNil)))
    (sRet (fC .non))))
def d_forgets : FD := runF 2 5 false b_forgets
abbrev fgIf : SF := (sIf (tOp2 dNe (.val (op2 dIx (.var 2) (.var 3))) (.val (op2 dIx (.var 2) (.var 4))))
    (sRet (fTup [(fVar 3), (fVar 4)]))
    sNil)
section
variable {many : Int} {rows : List (List Int)}
theorem fg_in (run : List Int) {m : List Int} {one : Int} (h0 : 0 ≤ one) (h1 : one < m.length) : ∀ (l : List Int) (a4 : Option (Bool × D)), (∀ o ∈ l, 0 ≤ o ∧ o < m.length) →
    ∃ a4', forL (gN 4) fgIf (l.map .int) [some (false, sysD many rows), some (false, iT run), some (false, iT m), some (false, .int one), a4] =
      .ok (match inA m one l with | some o => .rt false (.tup [.int one, .int o]) | none => .nx, [some (false, sysD many rows), some (false, iT run), some (false, iT m), some (false, .int one), a4'])
  | [], a4, _ => ⟨a4, rfl⟩
  | o :: l, a4, h => by
    have ho := h o List.mem_cons_self
    have e1 := v_ixI h0 h1
    have e2 := v_ixI ho.1 ho.2
    rw [List.map_cons]
    unfold forL
    show ∃ a4', (fgIf [some (false, sysD many rows), some (false, iT run), some (false, iT m), some (false, .int one), some (false, .int o)]).bind _ = _
    unfold inA
    rw [List.find?_cons]
    by_cases hq : m.getD one.toNat 0 = m.getD o.toNat 0
    · obtain ⟨a4', e⟩ := fg_in run h0 h1 l (some (false, .int o)) fun z hz => h z (List.mem_cons_of_mem _ hz)
      refine ⟨a4', ?_⟩
      have hne : dNe (.int (m.getD one.toNat 0)) (.int (m.getD o.toNat 0)) = some false := by
        rw [hq]
        have : dNe (.int (m.getD o.toNat 0)) (.int (m.getD o.toNat 0)) = some (!((m.getD o.toNat 0) == (m.getD o.toNat 0))) := rfl
        rw [this]; simp
      rw [decide_eq_true hq]

      have e0 : fgIf [some (false, sysD many rows), some (false, iT run), some (false, iT m), some (false, .int one), some (false, .int o)] = .ok (.nx, [some (false, sysD many rows), some (false, iT run), some (false, iT m), some (false, .int one), some (false, .int o)]) := by
        generalize m.getD one.toNat 0 = x at e1 hne
        generalize m.getD o.toNat 0 = y at e2 hne
        generalize iT m = M at e1 e2 ⊢
        simp [e1, e2, hne]
      rw [e0, O.bind_ok]
      exact e
    · refine ⟨some (false, .int o), ?_⟩
      have hne : dNe (.int (m.getD one.toNat 0)) (.int (m.getD o.toNat 0)) = some true := by
        have : dNe (.int (m.getD one.toNat 0)) (.int (m.getD o.toNat 0)) = some (!((m.getD one.toNat 0) == (m.getD o.toNat 0))) := rfl
        rw [this, beq_eq_false_iff_ne.mpr hq]; rfl
      rw [decide_eq_false hq]

      have e0 : fgIf [some (false, sysD many rows), some (false, iT run), some (false, iT m), some (false, .int one), some (false, .int o)] = .ok (.rt false (.tup [.int one, .int o]), [some (false, sysD many rows), some (false, iT run), some (false, iT m), some (false, .int one), some (false, .int o)]) := by
        generalize m.getD one.toNat 0 = x at e1 hne
        generalize m.getD o.toNat 0 = y at e2 hne
        generalize iT m = M at e1 e2 ⊢
        simp [e1, e2, hne]
      rw [e0, O.bind_ok]
      rfl
theorem fg_out (S : SysOk many rows) (run : List Int) {m : List Int} (hm : (m.length : Int) = many) : ∀ (l : List Int) (a3 a4 : Option (Bool × D)), (∀ o ∈ l, 0 ≤ o ∧ o < many) →
    ∃ a3' a4', forL (gN 3) (sFor (fRg rg2 [(.val (op2 dAdd (.var 3) (.val (fC (.int 1))))), (.val (op2 dIx (.var 0) (.val (fC (.int 0)))))]) (gN 4) fgIf) (l.map .int) [some (false, sysD many rows), some (false, iT run), some (false, iT m), a3, a4] =
      .ok (match outA m many l with | some p => .rt false (prA (some p)) | none => .nx, [some (false, sysD many rows), some (false, iT run), some (false, iT m), a3', a4'])
  | [], a3, a4, _ => ⟨a3, a4, rfl⟩
  | one :: l, a3, a4, h => by
    have ho := h one List.mem_cons_self
    have hhi := S.hi
    obtain ⟨b4, e1⟩ := fg_in (many := many) (rows := rows) run ho.1 (by omega : one < m.length) (rgI (one + 1) (many - (one + 1)).toNat) a4 fun z hz => by
      have := rgI_mem.mp hz
      omega
    have hrg := rg2_ok (a := one + 1) (b := many) (by omega) (by omega)
    have hfi : fRg rg2 [(.val (op2 dAdd (.var 3) (.val (fC (.int 1))))), (.val (op2 dIx (.var 0) (.val (fC (.int 0)))))] [some (false, sysD many rows), some (false, iT run), some (false, iT m), some (false, .int one), a4] = .ok ((rgI (one + 1) (many - (one + 1)).toNat).map .int, [some (false, sysD many rows), some (false, iT run), some (false, iT m), some (false, .int one), a4]) := by
      have ha : dAdd (.int one) (.int 1) = some (false, .int (one + 1)) := rfl
      generalize (rgI (one + 1) (many - (one + 1)).toNat).map D.int = RR at hrg ⊢
      generalize one + 1 = w at ha hrg
      simp [ha, hrg]
    rw [List.map_cons]
    unfold forL
    show ∃ a3' a4', ((sFor _ _ fgIf) [some (false, sysD many rows), some (false, iT run), some (false, iT m), some (false, .int one), a4]).bind _ = _
    rw [r_for, hfi, O.bind_ok, e1, O.bind_ok]
    unfold outA
    rw [List.findSome?_cons]
    cases hin : inA m one (rgI (one + 1) (many - (one + 1)).toNat) with
    | some o =>
      exact ⟨some (false, .int one), b4, rfl⟩
    | none =>
      obtain ⟨c3, c4, e2⟩ := fg_out S run hm l (some (false, .int one)) b4 fun z hz => h z (List.mem_cons_of_mem _ hz)
      exact ⟨c3, c4, e2⟩
theorem forgets_ok (S : SysOk many rows) {run : List Int} (hr : RunOk rows run) : d_forgets [sysD many rows, iT run] = .ok (false, prA (apF (U.mapOf many rows run) many), []) := by
  have h1 := runMap_ok S hr
  have hml : ((U.mapOf many rows run).length : Int) = many := by rw [U.mapOf_len]; have := S.lo; omega
  have hlo := S.lo
  have hhi := S.hi
  obtain ⟨a3, a4, e⟩ := fg_out S run hml (ups many.toNat) none none fun o ho => by
    have := ups_mem ho
    omega
  have hg := rg1_ok (j := many) (by omega) (by omega)
  have e' : apF (U.mapOf many rows run) many = outA (U.mapOf many rows run) many (ups many.toNat) := rfl
  rw [e']
  generalize U.mapOf many rows run = m at h1 e ⊢
  have e0 : sSet 2 (fCall d_run_map [(.var 0), (.var 1)]) [some (false, sysD many rows), some (false, iT run), none, none, none] = .ok (.nx, [some (false, sysD many rows), some (false, iT run), some (false, iT m), none, none]) := by simp [q_run, h1]
  have e1 : fRg rg1 [(.val (op2 dIx (.var 0) (.val (fC (.int 0)))))] [some (false, sysD many rows), some (false, iT run), some (false, iT m), none, none] = .ok ((ups many.toNat).map .int, [some (false, sysD many rows), some (false, iT run), some (false, iT m), none, none]) := by simp [hg]
  unfold d_forgets
  rw [run2]
  simp only [List.replicate]
  show finF false (sSeq _ (sSeq (sFor _ _ (sFor _ _ fgIf)) _) _) = _
  rw [r_seq, e0, O.bind_ok]
  dsimp only
  rw [r_seq, r_for, e1, O.bind_ok, e, O.bind_ok]
  cases outA m many (ups many.toNat) with
  | some p =>
    obtain ⟨a, b⟩ := p
    rfl
  | none => rfl
/-! ### the first run that forgets -/
def b_forgetting_run : SF :=
    (sSeq (sFor (fIt (fCall d_all_runs [(.var 0)])) (gN 1)
    (sIf (tOp2 dIsN (.val (fCall d_forgets [(.var 0), (.var 1)])) (.val (fC .non)))
    (sRet (fMv 1))
    sNil))
    (sRet (fC .non)))
def d_forgetting_run : FD := runF 1 2 false b_forgetting_run
def orD : Option (List Int) → D
  | none => .non
  | some r => iT r
abbrev fgrIf : SF := (sIf (tOp2 dIsN (.val (fCall d_forgets [(.var 0), (.var 1)])) (.val (fC .non)))
    (sRet (fMv 1))
    sNil)
theorem fgr_loop (S : SysOk many rows) : ∀ (l : List (List Int)) (a1 : Option (Bool × D)), (∀ r ∈ l, RunOk rows r) →
    ∃ a1', forL (gN 1) fgrIf (l.map iT) [some (false, sysD many rows), a1] =
      .ok (match l.find? (fun r => (apF (U.mapOf many rows r) many).isNone) with | some r => .rt false (iT r) | none => .nx, [some (false, sysD many rows), a1'])
  | [], a1, _ => ⟨a1, rfl⟩
  | r :: l, a1, h => by
    have h1 := forgets_ok S (h r List.mem_cons_self)
    have h2 := dIsN_prA (apF (U.mapOf many rows r) many)
    rw [List.map_cons]
    unfold forL
    show ∃ a1', (fgrIf [some (false, sysD many rows), some (false, iT r)]).bind _ = _
    rw [List.find?_cons]
    have himm : (prA (apF (U.mapOf many rows r) many)).imm = true := by
      cases apF (U.mapOf many rows r) many with
      | none => rfl
      | some p => rfl
    generalize prA (apF (U.mapOf many rows r) many) = P at h1 h2 himm
    cases hb : (apF (U.mapOf many rows r) many).isNone with
    | true =>
      rw [hb] at h2
      have e0 : ∃ a1', fgrIf [some (false, sysD many rows), some (false, iT r)] = .ok (.rt false (iT r), [some (false, sysD many rows), a1']) := by
        refine ⟨?_, ?_⟩
        rotate_left
        · simp [h1, h2, himm]
          rfl
      obtain ⟨a1', e0⟩ := e0
      rw [e0]
      exact ⟨_, rfl⟩
    | false =>
      rw [hb] at h2
      have e0 : fgrIf [some (false, sysD many rows), some (false, iT r)] = .ok (.nx, [some (false, sysD many rows), some (false, iT r)]) := by
        simp [h1, h2, himm]
      rw [e0]
      exact fgr_loop S l (some (false, iT r)) fun z hz => h z (List.mem_cons_of_mem _ hz)
theorem forgettingRun_ok (S : SysOk many rows) (L : OnlyLast many rows) (h6 : rows.length ≤ 6) : d_forgetting_run [sysD many rows] = .ok (false, orD ((allR many rows).find? fun r => (apF (U.mapOf many rows r) many).isNone), []) := by
  have h1 := allRuns_ok S L h6
  obtain ⟨a1, e⟩ := fgr_loop S (allR many rows) none fun r hr => ((allR_mem S L r).mp hr).1
  have him := imm_rowsL (allR many rows)
  have e1 : fIt (fCall d_all_runs [(.var 0)]) [some (false, sysD many rows), none] = .ok ((allR many rows).map iT, [some (false, sysD many rows), none]) := by
    generalize (allR many rows).map iT = al at h1 him ⊢
    simp [h1, him]
  unfold d_forgetting_run
  rw [run1]
  show finF false (sSeq (sFor _ _ fgrIf) _ [some (false, sysD many rows), none]) = _
  rw [r_seq, r_for, e1, O.bind_ok, e, O.bind_ok]
  cases (allR many rows).find? (fun r => (apF (U.mapOf many rows r) many).isNone) with
  | some r => rfl
  | none => rfl
end
end H
namespace H
set_option autoImplicit false
open PySem L2 U
theorem nub_one {m : List Int} (h0 : m ≠ []) : (nubI m).length = 1 ↔ ∀ x ∈ m, ∀ y ∈ m, x = y := by
  constructor
  · intro h x hx y hy
    obtain ⟨z, hz⟩ := List.length_eq_one_iff.mp h
    have h1 := (nubI_mem m x).mpr hx
    have h2 := (nubI_mem m y).mpr hy
    rw [hz] at h1 h2
    rw [List.mem_singleton.mp h1, List.mem_singleton.mp h2]
  · intro h
    obtain ⟨x, l, rfl⟩ := List.exists_cons_of_ne_nil h0
    have h1 := (nubI_mem (x :: l) x).mpr List.mem_cons_self
    have hn := nubI_nodup (x :: l)
    cases hc : nubI (x :: l) with
    | nil => rw [hc] at h1; cases h1
    | cons y r =>
      cases r with
      | nil => rfl
      | cons z r =>
        exfalso
        rw [hc] at hn
        have hy : y ∈ x :: l := (nubI_mem _ y).mp (by rw [hc]; exact List.mem_cons_self)
        have hz : z ∈ x :: l := (nubI_mem _ z).mp (by rw [hc]; exact List.mem_cons_of_mem _ List.mem_cons_self)
        have := h y hy z hz
        exact (List.nodup_cons.mp hn).1 (by rw [this]; exact List.mem_cons_self)
theorem find_least {l : List (List Int)} (hs : l.Pairwise ltR) {p : List Int → Bool} {r x : List Int} (h : l.find? p = some r) (hx : x ∈ l) (px : p x = true) : r = x ∨ ltR r x := by
  induction l with
  | nil => cases hx
  | cons y l ih =>
    rw [List.pairwise_cons] at hs
    rw [List.find?_cons] at h
    cases hy : p y with
    | true =>
      rw [hy] at h
      cases h
      rcases List.mem_cons.mp hx with z | z
      · exact .inl z.symm
      · exact .inr (hs.1 x z)
    | false =>
      rw [hy] at h
      rcases List.mem_cons.mp hx with z | z
      · rw [z, hy] at px; cases px
      · exact ih hs.2 h z
theorem find_same {l l' : List (List Int)} (hs : l.Pairwise ltR) (hs' : l'.Pairwise ltR) {p : List Int → Bool} (hsub : ∀ r ∈ l', r ∈ l) (hmin : ∀ r ∈ l, p r = true → ∃ r' ∈ l', p r' = true ∧ (r' = r ∨ ltR r' r)) : l.find? p = l'.find? p := by
  have anti : ∀ {a b : List Int}, (a = b ∨ ltR a b) → (b = a ∨ ltR b a) → a = b := fun {a b} h h' => by
    rcases h with h | h
    · exact h
    · rcases h' with h' | h'
      · exact h'.symm
      · exact absurd (ltR_trans h h') (ltR_irr _)
  cases h : l.find? p with
  | none =>
    rw [List.find?_eq_none] at h
    symm
    rw [List.find?_eq_none]
    exact fun r hr => h r (hsub r hr)
  | some r =>
    have hr := List.mem_of_find?_eq_some h
    have pr := List.find?_some h
    obtain ⟨r', h1, h2, h3⟩ := hmin r hr pr
    have e := anti (find_least hs h (hsub r' h1) h2) h3
    subst e
    cases h' : l'.find? p with
    | none => exact absurd pr ((List.find?_eq_none.mp h') r h1)
    | some s =>
      have hs1 := List.mem_of_find?_eq_some h'
      have ps := List.find?_some h'
      rw [anti (find_least hs h (hsub s hs1) ps) (find_least hs' h' h1 h2)]
section
variable {many : Int} {rows : List (List Int)}
theorem allR_sort (S : SysOk many rows) (L : OnlyLast many rows) : (allR many rows).Pairwise ltR := by
  have h1 : (allR many rows).Pairwise fun a b => leS a b = true := List.pairwise_mergeSort leS_trans leS_total _
  have h2 : (allR many rows).Nodup := ((List.mergeSort_perm _ _).nodup_iff).mpr (dist_fst maps_vld.2 maps_vld.1)
  refine (h1.and h2).imp fun {a b} h => ?_
  rcases ltR_tri a b with z | z | z
  · exact z
  · exact absurd z h.2
  · exact absurd z ((leS_iff a b).mp h.1)
/-- all boards are led to one -/
def Cst (many : Int) (rows : List (List Int)) (run : List Int) : Prop := ∀ x ∈ U.mapOf many rows run, ∀ y ∈ U.mapOf many rows run, x = y
theorem map_ne (S : SysOk many rows) (run : List Int) : U.mapOf many rows run ≠ [] := by
  intro e
  have h := U.mapOf_len (many := many) (rows := rows) run
  rw [e] at h
  have := S.lo
  simp at h
  omega
theorem cst_goes {run : List Int} : Cst many rows run ↔ ∀ b c, 0 ≤ b → b < many → 0 ≤ c → c < many → goes rows run b = goes rows run c := by
  unfold Cst
  have hm : ∀ x, x ∈ U.mapOf many rows run ↔ ∃ b, (0 ≤ b ∧ b < many) ∧ goes rows run b = x := fun x => by
    unfold U.mapOf
    rw [List.mem_map]
    constructor
    · rintro ⟨b, hb, e⟩
      have := ups_mem hb
      exact ⟨b, by omega, e⟩
    · rintro ⟨b, hb, e⟩
      exact ⟨b, ups_in hb.1 (by omega), e⟩
  constructor
  · intro h b c b0 b1 c0 c1
    exact h _ ((hm _).mpr ⟨b, ⟨b0, b1⟩, rfl⟩) _ ((hm _).mpr ⟨c, ⟨c0, c1⟩, rfl⟩)
  · intro h x hx y hy
    obtain ⟨b, hb, rfl⟩ := (hm x).mp hx
    obtain ⟨c, hc, rfl⟩ := (hm y).mp hy
    exact h b c hb.1 hb.2 hc.1 hc.2
theorem cst_ap (S : SysOk many rows) (run : List Int) : (apF (U.mapOf many rows run) many).isNone = true ↔ Cst many rows run := by
  have hml : ((U.mapOf many rows run).length : Int) = many := by rw [U.mapOf_len]; have := S.lo; omega
  rw [Option.isNone_iff_eq_none, apF_none (by have := S.lo; omega) hml]
  rfl
theorem cst_nub (S : SysOk many rows) (run : List Int) : (nubI (U.mapOf many rows run)).length = 1 ↔ Cst many rows run := nub_one (map_ne S run)
theorem cst_fix (S : SysOk many rows) (L : OnlyLast many rows) {run : List Int} (hr : RunOk rows run) : (fixB many rows run).length = 1 ↔ Cst many rows run := by
  have hlo := S.lo
  rw [cst_goes]
  constructor
  · intro h b c b0 b1 c0 c1
    obtain ⟨z, hz⟩ := List.length_eq_one_iff.mp h
    have h1 := goes_fix S L hr b0 b1
    have h2 := goes_fix S L hr c0 c1
    rw [hz] at h1 h2
    rw [List.mem_singleton.mp h1, List.mem_singleton.mp h2]
  · intro h
    have h0 := goes_fix S L hr (by omega : (0 : Int) ≤ 0) (by omega)
    have hn := fix_nodup many rows run
    have hall : ∀ z ∈ fixB many rows run, z = goes rows run 0 := fun z hz => by
      obtain ⟨h1, h2⟩ := (fix_mem S).mp hz
      rw [← h2]
      exact h z 0 h1.1 h1.2 (by omega) (by omega)
    cases hc : fixB many rows run with
    | nil => rw [hc] at h0; cases h0
    | cons y r =>
      cases r with
      | nil => rfl
      | cons z r =>
        exfalso
        rw [hc] at hn hall
        have e1 := hall y List.mem_cons_self
        have e2 := hall z (List.mem_cons_of_mem _ List.mem_cons_self)
        exact (List.nodup_cons.mp hn).1 (by rw [e1, e2]; exact List.mem_cons_self)
theorem fix_set (S : SysOk many rows) (L : OnlyLast many rows) {run : List Int} (hr : RunOk rows run) : (fixB many rows (sortI (nubI run))).length = (fixB many rows run).length := by
  have hr' : RunOk rows (sortI (nubI run)) := fun z hz => hr z ((sort_mem run z).mp hz)
  refine Nat.le_antisymm (fix_le S L hr fun z hz => ?_) (fix_le S L hr' fun z hz => ?_)
  · exact sw_in S L hr' ((sort_mem run z).mpr hz)
  · exact sw_in S L hr ((sort_mem run z).mp hz)
theorem cst_nrm (S : SysOk many rows) (L : OnlyLast many rows) {run : List Int} (hr : RunOk rows run) : Cst many rows (nrm many rows run) ↔ Cst many rows run := by
  unfold Cst
  rw [(nrm_map S L hr).2.2]
/-- the first row that forgets -/
def wayF (many : Int) (rows : List (List Int)) : Option (List Int) := (allR many rows).find? fun r => (apF (U.mapOf many rows r) many).isNone
theorem way_rows (S : SysOk many rows) (L : OnlyLast many rows) : (rowsF rows.length rows.length).find? (fun r => decide ((nubI (U.mapOf many rows r)).length = 1)) = wayF many rows := by
  have hp : (fun r => (apF (U.mapOf many rows r) many).isNone) = fun r => decide ((nubI (U.mapOf many rows r)).length = 1) := by
    funext r
    rw [Bool.eq_iff_iff, cst_ap S, decide_eq_true_eq, cst_nub S]
  unfold wayF
  rw [hp]
  refine find_same (rows_sort _ _) (allR_sort S L) (fun r hr => ?_) fun r hr hpr => ?_
  · obtain ⟨h1, h2⟩ := (allR_mem S L r).mp hr
    exact mem_rows h1 (first_nodup S L h1 h2)
  · have hro : RunOk rows r := fun z hz => (rowsF_mem _ _ r hr).2.2 z hz
    rw [decide_eq_true_eq, cst_nub S] at hpr
    obtain ⟨n1, n2, n3⟩ := nrm_map S L hro
    refine ⟨nrm many rows r, (allR_mem S L _).mpr ⟨n1, nrm_first S L hro⟩, by rw [decide_eq_true_eq, cst_nub S, cst_nrm S L hro]; exact hpr, ?_⟩
    rcases ltR_tri (nrm many rows r) r with z | z | z
    · exact .inr z
    · exact .inl z
    · exact absurd z (nrm_first S L hro r hro n3.symm)
theorem way_all (S : SysOk many rows) (L : OnlyLast many rows) : (rowsF rows.length rows.length).filter (fun r => decide ((nubI (U.mapOf many rows r)).length = 1)) = [] ↔ ¬ Cst many rows (ups rows.length) := by
  have hu : RunOk rows (ups rows.length) := fun z hz => ups_mem hz
  rw [List.filter_eq_nil_iff]
  constructor
  · intro h hc
    exact h _ (mem_rows hu (ups_asc _ |>.imp fun {a b} h => by omega)) (by rw [decide_eq_true_eq, cst_nub S]; exact hc)
  · intro h r hr hp
    have hro : RunOk rows r := fun z hz => (rowsF_mem _ _ r hr).2.2 z hz
    rw [decide_eq_true_eq, cst_nub S, cst_goes] at hp
    apply h
    rw [cst_goes]
    intro b c b0 b1 c0 c1
    have hsw : ∀ z ∈ r, Sw many rows (ups rows.length) z := fun z hz => sw_in S L hu (ups_in (hro z hz).1 (hro z hz).2)
    rw [← sw_all S hro hsw b0 b1, ← sw_all S hro hsw c0 c1, hp b c b0 b1 c0 c1]
end
end H
namespace G_k17_whole_forgotten_exactly
set_option autoImplicit false
open PySem PySem.Spec PyProof.Rows L2 U
def top (i : Nat) : Stmt := PySem.Challenge.pw_onlylast_k17_whole_forgotten_exactly.main.body.getD i (.Pass ⟨0, 0, 0, 0⟩)
abbrev s_by_size : Stmt := top 1
abbrev s_done : Stmt := top 3
abbrev s_run_map : Stmt := top 4
abbrev s_behind_map : Stmt := top 5
abbrev s_normal_runs : Stmt := top 7
abbrev s_all_runs : Stmt := top 8
abbrev s_fixed_boards : Stmt := top 10
abbrev s_fixed_many : Stmt := top 11
abbrev s_forgets : Stmt := top 12
abbrev s_forgetting_run : Stmt := top 13
abbrev s_law_box : Stmt := top 15
abbrev s_law_take : Stmt := top 16
abbrev s_law_pick : Stmt := top 17
abbrev s_law_same : Stmt := top 18
abbrev s_law_mixed : Stmt := top 19
abbrev s_law_map : Stmt := top 20
abbrev s_law_rows : Stmt := top 21
abbrev s_law_is_plain : Stmt := top 22
abbrev s_law_set : Stmt := top 23
abbrev s_law_settings : Stmt := top 24
abbrev s_law_orders : Stmt := top 25
abbrev s_law_front : Stmt := top 26
abbrev s_law_fronts : Stmt := top 27
abbrev s_law_few : Stmt := top 28
abbrev s_law_glued : Stmt := top 29
abbrev s_law_system : Stmt := top 30
abbrev s_law : Stmt := top 31
structure Fx (K : PySem.W.Frag) (mg : Str → Option Value) : Prop where
  n_by_size : Nm K mg "by_size" s_by_size
  n_done : Nm K mg "done" s_done
  n_run_map : Nm K mg "run_map" s_run_map
  n_behind_map : Nm K mg "behind_map" s_behind_map
  n_normal_runs : Nm K mg "normal_runs" s_normal_runs
  n_all_runs : Nm K mg "all_runs" s_all_runs
  n_fixed_boards : Nm K mg "fixed_boards" s_fixed_boards
  n_fixed_many : Nm K mg "fixed_many" s_fixed_many
  n_forgets : Nm K mg "forgets" s_forgets
  n_forgetting_run : Nm K mg "forgetting_run" s_forgetting_run
  n_law_box : Nm K mg "_law_box" s_law_box
  n_law_take : Nm K mg "_law_take" s_law_take
  n_law_pick : Nm K mg "_law_pick" s_law_pick
  n_law_same : Nm K mg "_law_same" s_law_same
  n_law_mixed : Nm K mg "_law_mixed" s_law_mixed
  n_law_map : Nm K mg "_law_map" s_law_map
  n_law_rows : Nm K mg "_law_rows" s_law_rows
  n_law_is_plain : Nm K mg "_law_is_plain" s_law_is_plain
  n_law_set : Nm K mg "_law_set" s_law_set
  n_law_settings : Nm K mg "_law_settings" s_law_settings
  n_law_orders : Nm K mg "_law_orders" s_law_orders
  n_law_front : Nm K mg "_law_front" s_law_front
  n_law_fronts : Nm K mg "_law_fronts" s_law_fronts
  n_law_few : Nm K mg "_law_few" s_law_few
  n_law_glued : Nm K mg "_law_glued" s_law_glued
  n_law_system : Nm K mg "_law_system" s_law_system
  n_law : Nm K mg "law" s_law
  m_abs : mg "abs" = none
  m_bool : mg "bool" = none
  m_enumerate : mg "enumerate" = none
  m_int : mg "int" = none
  m_isinstance : mg "isinstance" = none
  m_len : mg "len" = none
  m_list : mg "list" = none
  m_max : mg "max" = none
  m_min : mg "min" = none
  m_range : mg "range" = none
  m_set : mg "set" = none
  m_sorted : mg "sorted" = none
  m_str : mg "str" = none
  m_tuple : mg "tuple" = none
  m_zip : mg "zip" = none
section
variable {P : Program} {w : World} {K : PySem.W.Frag} {mg : Str → Option Value} {base : Heap} {c : Cc}
theorem kw_forgets_0_system_run : KwP "forgets" s_forgets ["system", "run"] ["system", "run"] 0 2 [0, 1] := fun _ _ _ _ _ _ us ws h h2 => match us, ws, h, h2 with | [], [_, _], _, _ => rfl
theorem kw_forgetting_run_0_system : KwP "forgetting_run" s_forgetting_run ["system"] ["system"] 0 1 [0] := fun _ _ _ _ _ _ us ws h h2 => match us, ws, h, h2 with | [], [_], _, _ => rfl
theorem sc_by_size : FnScope ["row"] ["row"] (defScope s_by_size) := ⟨rfl, rfl, rfl, by decide +kernel, rfl, by decide +kernel, by decide +kernel⟩
theorem bn_by_size : BindsP "by_size" s_by_size ["row"] := fun _ _ _ _ _ _ us h => match us, h with | [_], _ => rfl
def b_by_size : SF :=
    (sRet (fTup [(opN dLen [(.var 0)]), (fVar 0)]))
def d_by_size : FD := runF 1 1 false b_by_size
theorem ok_by_size (x : Fx K mg) (hC : K = c.K ∧ c.P = P ∧ c.w = w) : Okd P w K mg base CX0 c "by_size" s_by_size ["row"] 1 false d_by_size := by
    have hK := hC.1
    have sc := sc_by_size
    exact okd_of (k := 0) x.n_by_size sc (by decide) bn_by_size fun f cdv A outer s H E hr => ((ds_one (ds_ret (de_tup (da_cons (b_len hC x.m_len (dps_cons (dp_var 0 (pv 0)) dps_nil)) (da_cons (de_var 0 (pv 0)) da_nil))))) : DSs _ c false E _ b_by_size)
theorem sc_done : FnScope ["system", "run", "board", "deed"] ["system", "run", "board"] (defScope s_done) := ⟨rfl, rfl, rfl, by decide +kernel, rfl, by decide +kernel, by decide +kernel⟩
theorem bn_done : BindsP "done" s_done ["system", "run", "board"] := fun _ _ _ _ _ _ us h => match us, h with | [_, _, _], _ => rfl
def b_done : SF :=
    (sSeq (sFor (fIt (fVar 1)) (gN 3)
    (sSet 2 (op2 dIx (.val (op2 dIx (.val (op2 dIx (.var 0) (.val (fC (.int 1))))) (.var 3))) (.var 2))))
    (sRet (fMv 2)))
def d_done : FD := runF 3 4 false b_done
theorem ok_done (x : Fx K mg) (hC : K = c.K ∧ c.P = P ∧ c.w = w) : Okd P w K mg base CX0 c "done" s_done ["system", "run", "board"] 1 false d_done := by
    have hK := hC.1
    have sc := sc_done
    exact okd_of (k := 0) x.n_done sc (by decide) bn_done fun f cdv A outer s H E hr => ((ds_seq (ds_for (passes_of rfl) rfl (di_val hC (de_var 1 (pv 1))) (dg_name (i := 3) sc.nd rfl (by first | exact .inl rfl | exact .inr rfl)) (by decide)
    (ds_one (ds_set (i := 2) (e_ix hr hC (dp_val (e_ix hr hC (dp_val (e_ix hr hC (dp_var 0 (pv 0)) (dp_val de_int))) (dp_var 3 (pv 3)))) (dp_var 2 (pv 2))) sc.nd rfl (by first | exact .inl rfl | exact .inr rfl) (by decide))))
    (ds_one (ds_ret (de_mv 2 (pv 2))))) : DSs _ c false E _ b_done)
theorem sc_run_map : FnScope ["system", "run", "board"] ["system", "run"] (defScope s_run_map) := ⟨rfl, rfl, rfl, by decide +kernel, rfl, by decide +kernel, by decide +kernel⟩
theorem bn_run_map : BindsP "run_map" s_run_map ["system", "run"] := fun _ _ _ _ _ _ us h => match us, h with | [_, _], _ => rfl
def b_run_map : SF :=
    (sRet (opN dTuple [(.val (fLc [2] (fRg rg1 [(.val (op2 dIx (.var 0) (.val (fC (.int 0)))))]) (gN 2) (tAll []) (fCall d_done [(.var 0), (.var 1), (.var 2)])))]))
def d_run_map : FD := runF 2 3 false b_run_map
theorem ok_run_map (x : Fx K mg) (hC : K = c.K ∧ c.P = P ∧ c.w = w) : Okd P w K mg base CX0 c "run_map" s_run_map ["system", "run"] 2 false d_run_map := by
    have hK := hC.1
    have sc := sc_run_map
    exact okd_of (k := 1) x.n_run_map sc (by decide) bn_run_map fun f cdv A outer s H E hr => ((ds_one (ds_ret (b_tuple hK x.m_tuple (dps_cons (dp_val (de_lc (own := [("board", 2)]) rfl sc.nd (di_rg1 (dps_cons (dp_val (e_ix hr hC (dp_var 0 (pv 0)) (dp_val de_int))) dps_nil) (by rfl) x.m_range) (blkOk_by (N := ["system", "run", "board"]) (sc := defScope s_run_map) (by decide +kernel)) rfl (by decide) (fun _ _ _ _ _ => (dg_name (i := 2) sc.nd rfl (by first | exact .inl rfl | exact .inr rfl))) (fun _ _ _ _ _ => dts_nil) (fun _ _ _ _ _ => (e_call (ok_done x hC) hr (by omega) uPass (dps_cons (dp_var 0 (pv 0)) (dps_cons (dp_var 1 (pv 1)) (dps_cons (dp_var 2 (pv 2)) dps_nil))))))) dps_nil)))) : DSs _ c false E _ b_run_map)
theorem sc_behind_map : FnScope ["system", "told", "deed", "board"] ["system", "told", "deed"] (defScope s_behind_map) := ⟨rfl, rfl, rfl, by decide +kernel, rfl, by decide +kernel, by decide +kernel⟩
theorem bn_behind_map : BindsP "behind_map" s_behind_map ["system", "told", "deed"] := fun _ _ _ _ _ _ us h => match us, h with | [_, _, _], _ => rfl
def b_behind_map : SF :=
    (sRet (opN dTuple [(.val (fLc [3] (fIt (fVar 1)) (gN 3) (tAll []) (op2 dIx (.val (op2 dIx (.val (op2 dIx (.var 0) (.val (fC (.int 1))))) (.var 2))) (.var 3))))]))
def d_behind_map : FD := runF 3 4 false b_behind_map
theorem ok_behind_map (x : Fx K mg) (hC : K = c.K ∧ c.P = P ∧ c.w = w) : Okd P w K mg base CX0 c "behind_map" s_behind_map ["system", "told", "deed"] 1 false d_behind_map := by
    have hK := hC.1
    have sc := sc_behind_map
    exact okd_of (k := 0) x.n_behind_map sc (by decide) bn_behind_map fun f cdv A outer s H E hr => ((ds_one (ds_ret (b_tuple hK x.m_tuple (dps_cons (dp_val (de_lc (own := [("board", 3)]) rfl sc.nd (di_val hC (de_var 1 (pv 1))) (blkOk_by (N := ["system", "told", "deed", "board"]) (sc := defScope s_behind_map) (by decide +kernel)) rfl (by decide) (fun _ _ _ _ _ => (dg_name (i := 3) sc.nd rfl (by first | exact .inl rfl | exact .inr rfl))) (fun _ _ _ _ _ => dts_nil) (fun _ _ _ _ _ => (e_ix hr hC (dp_val (e_ix hr hC (dp_val (e_ix hr hC (dp_var 0 (pv 0)) (dp_val de_int))) (dp_var 2 (pv 2)))) (dp_var 3 (pv 3)))))) dps_nil)))) : DSs _ c false E _ b_behind_map)
theorem sc_normal_runs : FnScope ["system", "start", "turn", "found", "level", "longer", "run", "told", "deed", "more"] ["system"] (defScope s_normal_runs) := ⟨rfl, rfl, rfl, by decide +kernel, rfl, by decide +kernel, by decide +kernel⟩
theorem bn_normal_runs : BindsP "normal_runs" s_normal_runs ["system"] := fun _ _ _ _ _ _ us h => match us, h with | [_], _ => rfl
def b_normal_runs : SF :=
    (sSeq (sSet 1 (op1 dTupRg (.val (op2 dIx (.var 0) (.val (fC (.int 0)))))))
    (sSeq (sPar [(3, (fDic (fVar 1) (fTup []))), (4, (fLst [(fTup [(fTup []), (fVar 1)])]))])
    (sSeq (sFor (fRg rg1 [(.val (opN dLen [(.val (op2 dIx (.var 0) (.val (fC (.int 1)))))]))]) (gN 2)
    (sSeq (sSet 5 (fLst []))
    (sSeq (sFor (fIt (opN dSorted [(.var 4)])) (gT [(gN 6), (gN 7)])
    (sFor (fRg rg1 [(.val (opN dLen [(.val (op2 dIx (.var 0) (.val (fC (.int 1)))))]))]) (gN 8)
    (sSeq (sSet 9 (fCall d_behind_map [(.var 0), (.var 7), (.var 8)]))
    (sIf (tOp2 dNotIn (.var 9) (.var 3))
    (sSeq (sDx 3 (fVar 9) (op2 dAdd (.var 6) (.val (fTup [(fVar 8)]))))
    (sExp (fMut mApp 5 [(fTup [(op2 dAdd (.var 6) (.val (fTup [(fVar 8)]))), (fVar 9)])])))
    sNil))))
    (sSet 4 (fVar 5)))))
    (sRet (fMv 3)))))
def d_normal_runs : FD := runF 1 10 false b_normal_runs
theorem ok_normal_runs (x : Fx K mg) (hC : K = c.K ∧ c.P = P ∧ c.w = w) : Okd P w K mg base CX0 c "normal_runs" s_normal_runs ["system"] 2 false d_normal_runs := by
    have hK := hC.1
    have sc := sc_normal_runs
    exact okd_of (k := 1) x.n_normal_runs sc (by decide) bn_normal_runs fun f cdv A outer s H E hr => ((ds_seq (ds_set (i := 1) (b_tupRg rfl x.m_tuple x.m_range (dp_val (e_ix hr hC (dp_var 0 (pv 0)) (dp_val de_int)))) sc.nd rfl (by first | exact .inl rfl | exact .inr rfl) (by decide))
    (ds_seq (ds_par2 (i := 3) (j := 4) rfl sc.nd rfl rfl (by decide) rfl rfl (de_dic hr hC (de_var 1 (pv 1)) (de_tup da_nil)) (de_lst (da_cons (de_tup (da_cons (de_tup da_nil) (da_cons (de_var 1 (pv 1)) da_nil))) da_nil)) (by decide) (by rfl))
    (ds_seq (ds_for (passes_of rfl) rfl (di_rg1 (dps_cons (dp_val (b_len hC x.m_len (dps_cons (dp_val (e_ix hr hC (dp_var 0 (pv 0)) (dp_val de_int))) dps_nil))) dps_nil) (by rfl) x.m_range) (dg_name (i := 2) sc.nd rfl (by first | exact .inl rfl | exact .inr rfl)) (by decide)
    (ds_seq (ds_set (i := 5) (de_lst da_nil) sc.nd rfl (by first | exact .inl rfl | exact .inr rfl) (by decide))
    (ds_seq (ds_for (passes_of rfl) rfl (di_val hC (b_sorted hr hK x.m_sorted (dps_cons (dp_var 4 (pv 4)) dps_nil))) (dg_tup hK rfl (.cons (dg_name (i := 6) sc.nd rfl (by first | exact .inl rfl | exact .inr rfl)) (by rfl) (.cons (dg_name (i := 7) sc.nd rfl (by first | exact .inl rfl | exact .inr rfl)) (by rfl) .nil))) (by decide)
    (ds_one (ds_for (passes_of rfl) rfl (di_rg1 (dps_cons (dp_val (b_len hC x.m_len (dps_cons (dp_val (e_ix hr hC (dp_var 0 (pv 0)) (dp_val de_int))) dps_nil))) dps_nil) (by rfl) x.m_range) (dg_name (i := 8) sc.nd rfl (by first | exact .inl rfl | exact .inr rfl)) (by decide)
    (ds_seq (ds_set (i := 9) (e_call (ok_behind_map x hC) hr (by omega) uPass (dps_cons (dp_var 0 (pv 0)) (dps_cons (dp_var 7 (pv 7)) (dps_cons (dp_var 8 (pv 8)) dps_nil)))) sc.nd rfl (by first | exact .inl rfl | exact .inr rfl) (by decide))
    (ds_one (ds_if (t_notIn hr hC (dp_var 9 (pv 9)) (dp_var 3 (pv 3)))
    (ds_seq (ds_dx hr hC (e_add hK (dp_var 6 (pv 6)) (dp_val (de_tup (da_cons (de_var 8 (pv 8)) da_nil)))) (pv 3) (de_var 9 (pv 9)))
    (ds_one (ds_expr (de_mut gs_app mt_append PySem.F.slot_list_append PySem.F.type_list_append (pv 5) (da_cons (de_tup (da_cons (e_add hK (dp_var 6 (pv 6)) (dp_val (de_tup (da_cons (de_var 8 (pv 8)) da_nil)))) (da_cons (de_var 9 (pv 9)) da_nil))) da_nil)))))
    ds_nil))))))
    (ds_one (ds_set (i := 4) (de_var 5 (pv 5)) sc.nd rfl (by first | exact .inl rfl | exact .inr rfl) (by decide))))))
    (ds_one (ds_ret (de_mv 3 (pv 3))))))) : DSs _ c false E _ b_normal_runs)
theorem sc_all_runs : FnScope ["system"] ["system"] (defScope s_all_runs) := ⟨rfl, rfl, rfl, by decide +kernel, rfl, by decide +kernel, by decide +kernel⟩
theorem bn_all_runs : BindsP "all_runs" s_all_runs ["system"] := fun _ _ _ _ _ _ us h => match us, h with | [_], _ => rfl
def b_all_runs : SF :=
    (sRet (opN dTuple [(.val (opN (dSortK d_by_size) [(.val (op1 dVals (.val (fCall d_normal_runs [(.var 0)]))))]))]))
def d_all_runs : FD := runF 1 1 false b_all_runs
theorem ok_all_runs (x : Fx K mg) (hC : K = c.K ∧ c.P = P ∧ c.w = w) : Okd P w K mg base CX0 c "all_runs" s_all_runs ["system"] 4 false d_all_runs := by
    have hK := hC.1
    have sc := sc_all_runs
    exact okd_of (k := 3) x.n_all_runs sc (by decide) bn_all_runs fun f cdv A outer s H E hr => ((ds_one (ds_ret (b_tuple hK x.m_tuple (dps_cons (dp_val (b_sortedK hK (ok_by_size x hC) hr (by omega) x.m_sorted (dps_cons (dp_val (b_listVals rfl hC x.m_list (dp_val (e_call (ok_normal_runs x hC) hr (by omega) uPass (dps_cons (dp_var 0 (pv 0)) dps_nil))))) dps_nil))) dps_nil)))) : DSs _ c false E _ b_all_runs)
theorem sc_fixed_boards : FnScope ["system", "run", "board", "there"] ["system", "run"] (defScope s_fixed_boards) := ⟨rfl, rfl, rfl, by decide +kernel, rfl, by decide +kernel, by decide +kernel⟩
theorem bn_fixed_boards : BindsP "fixed_boards" s_fixed_boards ["system", "run"] := fun _ _ _ _ _ _ us h => match us, h with | [_, _], _ => rfl
def b_fixed_boards : SF :=
    (sRet (opN dTuple [(.val (fLc [2, 3] (fEnum (fCall d_run_map [(.var 0), (.var 1)])) (gT [(gN 2), (gN 3)]) (tOp2 dEq (.var 3) (.var 2)) (fVar 2)))]))
def d_fixed_boards : FD := runF 2 4 false b_fixed_boards
theorem ok_fixed_boards (x : Fx K mg) (hC : K = c.K ∧ c.P = P ∧ c.w = w) : Okd P w K mg base CX0 c "fixed_boards" s_fixed_boards ["system", "run"] 3 false d_fixed_boards := by
    have hK := hC.1
    have sc := sc_fixed_boards
    exact okd_of (k := 2) x.n_fixed_boards sc (by decide) bn_fixed_boards fun f cdv A outer s H E hr => ((ds_one (ds_ret (b_tuple hK x.m_tuple (dps_cons (dp_val (de_lc (own := [("board", 2), ("there", 3)]) rfl sc.nd (di_enum hK (da_cons (e_call (ok_run_map x hC) hr (by omega) uPass (dps_cons (dp_var 0 (pv 0)) (dps_cons (dp_var 1 (pv 1)) dps_nil))) da_nil) (by rfl) x.m_enumerate) (blkOk_by (N := ["system", "run", "board", "there"]) (sc := defScope s_fixed_boards) (by decide +kernel)) rfl (by decide) (fun _ _ _ _ _ => (dg_tup hK rfl (.cons (dg_name (i := 2) sc.nd rfl (by first | exact .inl rfl | exact .inr rfl)) (by rfl) (.cons (dg_name (i := 3) sc.nd rfl (by first | exact .inl rfl | exact .inr rfl)) (by rfl) .nil)))) (fun _ _ _ _ _ => (dts_one (t_eq hr hK (dp_var 3 (pv 3)) (dp_var 2 (pv 2))))) (fun _ _ _ _ _ => (de_var 2 (pv 2))))) dps_nil)))) : DSs _ c false E _ b_fixed_boards)
theorem sc_fixed_many : FnScope ["system", "lot"] ["system", "lot"] (defScope s_fixed_many) := ⟨rfl, rfl, rfl, by decide +kernel, rfl, by decide +kernel, by decide +kernel⟩
theorem bn_fixed_many : BindsP "fixed_many" s_fixed_many ["system", "lot"] := fun _ _ _ _ _ _ us h => match us, h with | [_, _], _ => rfl
def b_fixed_many : SF :=
    (sRet (opN dLen [(.val (fCall d_fixed_boards [(.var 0), (.var 1)]))]))
def d_fixed_many : FD := runF 2 2 false b_fixed_many
theorem ok_fixed_many (x : Fx K mg) (hC : K = c.K ∧ c.P = P ∧ c.w = w) : Okd P w K mg base CX0 c "fixed_many" s_fixed_many ["system", "lot"] 4 false d_fixed_many := by
    have hK := hC.1
    have sc := sc_fixed_many
    exact okd_of (k := 3) x.n_fixed_many sc (by decide) bn_fixed_many fun f cdv A outer s H E hr => ((ds_one (ds_ret (b_len hC x.m_len (dps_cons (dp_val (e_call (ok_fixed_boards x hC) hr (by omega) uPass (dps_cons (dp_var 0 (pv 0)) (dps_cons (dp_var 1 (pv 1)) dps_nil)))) dps_nil)))) : DSs _ c false E _ b_fixed_many)
theorem sc_forgets : FnScope ["system", "run", "told", "one", "other"] ["system", "run"] (defScope s_forgets) := ⟨rfl, rfl, rfl, by decide +kernel, rfl, by decide +kernel, by decide +kernel⟩
theorem bn_forgets : BindsP "forgets" s_forgets ["system", "run"] := fun _ _ _ _ _ _ us h => match us, h with | [_, _], _ => rfl
def b_forgets : SF :=
    (sSeq (sSet 2 (fCall d_run_map [(.var 0), (.var 1)]))
    (sSeq (sFor (fRg rg1 [(.val (op2 dIx (.var 0) (.val (fC (.int 0)))))]) (gN 3)
    (sFor (fRg rg2 [(.val (op2 dAdd (.var 3) (.val (fC (.int 1))))), (.val (op2 dIx (.var 0) (.val (fC (.int 0)))))]) (gN 4)
    (sIf (tOp2 dNe (.val (op2 dIx (.var 2) (.var 3))) (.val (op2 dIx (.var 2) (.var 4))))
    (sRet (fTup [(fVar 3), (fVar 4)]))
    sNil)))
    (sRet (fC .non))))
def d_forgets : FD := runF 2 5 false b_forgets
theorem ok_forgets (x : Fx K mg) (hC : K = c.K ∧ c.P = P ∧ c.w = w) : Okd P w K mg base CX0 c "forgets" s_forgets ["system", "run"] 3 false d_forgets := by
    have hK := hC.1
    have sc := sc_forgets
    exact okd_of (k := 2) x.n_forgets sc (by decide) bn_forgets fun f cdv A outer s H E hr => ((ds_seq (ds_set (i := 2) (e_call (ok_run_map x hC) hr (by omega) uPass (dps_cons (dp_var 0 (pv 0)) (dps_cons (dp_var 1 (pv 1)) dps_nil))) sc.nd rfl (by first | exact .inl rfl | exact .inr rfl) (by decide))
    (ds_seq (ds_for (passes_of rfl) rfl (di_rg1 (dps_cons (dp_val (e_ix hr hC (dp_var 0 (pv 0)) (dp_val de_int))) dps_nil) (by rfl) x.m_range) (dg_name (i := 3) sc.nd rfl (by first | exact .inl rfl | exact .inr rfl)) (by decide)
    (ds_one (ds_for (passes_of rfl) rfl (di_rg2 (dps_cons (dp_val (e_add hK (dp_var 3 (pv 3)) (dp_val de_int))) (dps_cons (dp_val (e_ix hr hC (dp_var 0 (pv 0)) (dp_val de_int))) dps_nil)) (by rfl) x.m_range) (dg_name (i := 4) sc.nd rfl (by first | exact .inl rfl | exact .inr rfl)) (by decide)
    (ds_one (ds_if (t_ne hr hK (dp_val (e_ix hr hC (dp_var 2 (pv 2)) (dp_var 3 (pv 3)))) (dp_val (e_ix hr hC (dp_var 2 (pv 2)) (dp_var 4 (pv 4)))))
    (ds_one (ds_ret (de_tup (da_cons (de_var 3 (pv 3)) (da_cons (de_var 4 (pv 4)) da_nil)))))
    ds_nil)))))
    (ds_one (ds_ret de_non)))) : DSs _ c false E _ b_forgets)
theorem sc_forgetting_run : FnScope ["system", "run"] ["system"] (defScope s_forgetting_run) := ⟨rfl, rfl, rfl, by decide +kernel, rfl, by decide +kernel, by decide +kernel⟩
theorem bn_forgetting_run : BindsP "forgetting_run" s_forgetting_run ["system"] := fun _ _ _ _ _ _ us h => match us, h with | [_], _ => rfl
def b_forgetting_run : SF :=
    (sSeq (sFor (fIt (fCall d_all_runs [(.var 0)])) (gN 1)
    (sIf (tOp2 dIsN (.val (fCall d_forgets [(.var 0), (.var 1)])) (.val (fC .non)))
    (sRet (fMv 1))
    sNil))
    (sRet (fC .non)))
def d_forgetting_run : FD := runF 1 2 false b_forgetting_run
theorem ok_forgetting_run (x : Fx K mg) (hC : K = c.K ∧ c.P = P ∧ c.w = w) : Okd P w K mg base CX0 c "forgetting_run" s_forgetting_run ["system"] 5 false d_forgetting_run := by
    have hK := hC.1
    have sc := sc_forgetting_run
    exact okd_of (k := 4) x.n_forgetting_run sc (by decide) bn_forgetting_run fun f cdv A outer s H E hr => ((ds_seq (ds_for (passes_of rfl) rfl (di_val hC (e_call (ok_all_runs x hC) hr (by omega) uPass (dps_cons (dp_var 0 (pv 0)) dps_nil))) (dg_name (i := 1) sc.nd rfl (by first | exact .inl rfl | exact .inr rfl)) (by decide)
    (ds_one (ds_if (t_isN (dp_val (e_call (ok_forgets x hC) hr (by omega) uPass (dps_cons (dp_var 0 (pv 0)) (dps_cons (dp_var 1 (pv 1)) dps_nil)))) (dp_val de_non))
    (ds_one (ds_ret (de_mv 1 (pv 1))))
    ds_nil)))
    (ds_one (ds_ret de_non))) : DSs _ c false E _ b_forgetting_run)
theorem sc_law_box : FnScope ["script", "k", "cell", "great"] ["script", "k"] (defScope s_law_box) := ⟨rfl, rfl, rfl, by decide +kernel, rfl, by decide +kernel, by decide +kernel⟩
theorem bn_law_box : BindsP "_law_box" s_law_box ["script", "k"] := fun _ _ _ _ _ _ us h => match us, h with | [_, _], _ => rfl
def b_law_box : SF :=
    (sSeq (sSet 2 (op2 dAdd (.val (op2 dMul (.val (fC (.int 28019))) (.var 1))) (.val (fC (.int 7703)))))
    (sSeq (sIf (tOp2 dLt (.var 1) (.val (opN dLen [(.var 0)])))
    (sSet 2 (opN dAbs [(.val (opN dInt [(.val (op2 dIx (.var 0) (.var 1)))]))]))
    (sIf (tOp2 dGt (.val (opN dLen [(.var 0)])) (.val (fC (.int 0))))
    (sSet 2 (op2 dAdd (.var 2) (.val (op2 dMul (.val (op2 dMod (.val (opN dInt [(.val (opN dAbs [(.val (opN dInt [(.val (op2 dIx (.var 0) (.val (op2 dMod (.val (opN dInt [(.var 1)])) (.val (opN dLen [(.var 0)]))))))]))]))])) (.val (fC (.int 2147483563))))) (.val (fC (.int 97813)))))))
    sNil))
    (sSeq (sSet 3 (fIf (tOp2 dGe (.var 2) (.val (op2 dPow (.val (fC (.int 10))) (.val (fC (.int 18)))))) (fVar 2) (fC (.int 0))))
    (sRet (fLst [(fVar 3), (op2 dAdd (.val (op2 dMod (.val (opN dInt [(.val (op2 dAdd (.val (op2 dMul (.val (op2 dMod (.val (opN dInt [(.var 2)])) (.val (fC (.int 2147483563))))) (.val (fC (.int 54250003))))) (.val (op2 dMul (.val (fC (.int 7703))) (.var 1)))))])) (.val (fC (.int 2147483563))))) (.val (fC (.int 1))))])))))
def d_law_box : FD := runF 2 4 false b_law_box
theorem ok_law_box (x : Fx K mg) (hC : K = c.K ∧ c.P = P ∧ c.w = w) : Okd P w K mg base CX0 c "_law_box" s_law_box ["script", "k"] 1 false d_law_box := by
    have hK := hC.1
    have sc := sc_law_box
    exact okd_of (k := 0) x.n_law_box sc (by decide) bn_law_box fun f cdv A outer s H E hr => ((ds_seq (ds_set (i := 2) (e_add hK (dp_val (e_mul hK (dp_val de_int) (dp_var 1 (pv 1)))) (dp_val de_int)) sc.nd rfl (by first | exact .inl rfl | exact .inr rfl) (by decide))
    (ds_seq (ds_if (t_lt (dp_var 1 (pv 1)) (dp_val (b_len hC x.m_len (dps_cons (dp_var 0 (pv 0)) dps_nil))))
    (ds_one (ds_set (i := 2) (b_abs x.m_abs (dps_cons (dp_val (b_int x.m_int (dps_cons (dp_val (e_ix hr hC (dp_var 0 (pv 0)) (dp_var 1 (pv 1)))) dps_nil))) dps_nil)) sc.nd rfl (by first | exact .inl rfl | exact .inr rfl) (by decide)))
    (ds_one (ds_if (t_gt (dp_val (b_len hC x.m_len (dps_cons (dp_var 0 (pv 0)) dps_nil))) (dp_val de_int))
    (ds_one (ds_set (i := 2) (e_add hK (dp_var 2 (pv 2)) (dp_val (e_mul hK (dp_val (e_mod (dp_val (b_int x.m_int (dps_cons (dp_val (b_abs x.m_abs (dps_cons (dp_val (b_int x.m_int (dps_cons (dp_val (e_ix hr hC (dp_var 0 (pv 0)) (dp_val (e_mod (dp_val (b_int x.m_int (dps_cons (dp_var 1 (pv 1)) dps_nil))) (dp_val (b_len hC x.m_len (dps_cons (dp_var 0 (pv 0)) dps_nil))))))) dps_nil))) dps_nil))) dps_nil))) (dp_val de_int))) (dp_val de_int)))) sc.nd rfl (by first | exact .inl rfl | exact .inr rfl) (by decide)))
    ds_nil)))
    (ds_seq (ds_set (i := 3) (de_if (t_ge (dp_var 2 (pv 2)) (dp_val (e_pow (dp_val de_int) (dp_val de_int)))) (de_var 2 (pv 2)) de_int) sc.nd rfl (by first | exact .inl rfl | exact .inr rfl) (by decide))
    (ds_one (ds_ret (de_lst (da_cons (de_var 3 (pv 3)) (da_cons (e_add hK (dp_val (e_mod (dp_val (b_int x.m_int (dps_cons (dp_val (e_add hK (dp_val (e_mul hK (dp_val (e_mod (dp_val (b_int x.m_int (dps_cons (dp_var 2 (pv 2)) dps_nil))) (dp_val de_int))) (dp_val de_int))) (dp_val (e_mul hK (dp_val de_int) (dp_var 1 (pv 1)))))) dps_nil))) (dp_val de_int))) (dp_val de_int)) da_nil)))))))) : DSs _ c false E _ b_law_box)
theorem sc_law_take : FnScope ["box", "many", "raw", "digit"] ["box", "many"] (defScope s_law_take) := ⟨rfl, rfl, rfl, by decide +kernel, rfl, by decide +kernel, by decide +kernel⟩
theorem bn_law_take : BindsP "_law_take" s_law_take ["box", "many"] := fun _ _ _ _ _ _ us h => match us, h with | [_, _], _ => rfl
def b_law_take : SF :=
    (sSeq (sIf (tOp2 dGt (.val (op2 dIx (.var 0) (.val (fC (.int 0))))) (.val (fC (.int 0))))
    (sSeq (sSet 3 (op2 dMod (.val (opN dInt [(.val (op2 dIx (.var 0) (.val (fC (.int 0)))))])) (.var 1)))
    (sSeq (sIx 0 (fC (.int 0)) (op2 dFdiv (.val (op2 dIx (.var 0) (.val (fC (.int 0))))) (.var 1)))
    (sRet (fMv 3))))
    sNil)
    (sSeq (sSet 2 (op2 dMod (.val (opN dInt [(.val (op2 dAdd (.val (op2 dMul (.val (op2 dIx (.var 0) (.val (fC (.int 1))))) (.val (fC (.int 39373))))) (.val (fC (.int 211)))))])) (.val (fC (.int 2147483647)))))
    (sSeq (sIx 0 (fC (.int 1)) (op2 dAdd (.val (op2 dMod (.val (opN dInt [(.val (op2 dAdd (.val (op2 dMul (.var 2) (.val (fC (.int 40692))))) (.val (fC (.int 97)))))])) (.val (fC (.int 2147483563))))) (.val (fC (.int 1)))))
    (sRet (op2 dMod (.val (opN dInt [(.val (op2 dFdiv (.val (op2 dAdd (.val (op2 dMul (.var 2) (.val (fC (.int 2147483629))))) (.val (op2 dIx (.var 0) (.val (fC (.int 1))))))) (.val (fC (.int 8263)))))])) (.var 1))))))
def d_law_take : FD := runF 2 4 true b_law_take
theorem ok_law_take (x : Fx K mg) (hC : K = c.K ∧ c.P = P ∧ c.w = w) : Okd P w K mg base CX0 c "_law_take" s_law_take ["box", "many"] 1 true d_law_take := by
    have hK := hC.1
    have sc := sc_law_take
    exact okd_of (k := 0) x.n_law_take sc (by decide) bn_law_take fun f cdv A outer s H E hr => ((ds_seq (ds_if (t_gt (dp_val (e_ix hr hC (dp_var 0 (pv 0)) (dp_val de_int))) (dp_val de_int))
    (ds_seq (ds_set (i := 3) (e_mod (dp_val (b_int x.m_int (dps_cons (dp_val (e_ix hr hC (dp_var 0 (pv 0)) (dp_val de_int))) dps_nil))) (dp_var 1 (pv 1))) sc.nd rfl (by first | exact .inl rfl | exact .inr rfl) (by decide))
    (ds_seq (ds_ix (e_fdiv (dp_val (e_ix hr hC (dp_var 0 (pv 0)) (dp_val de_int))) (dp_var 1 (pv 1))) (pv 0) de_int)
    (ds_one (ds_ret (de_mv 3 (pv 3))))))
    ds_nil)
    (ds_seq (ds_set (i := 2) (e_mod (dp_val (b_int x.m_int (dps_cons (dp_val (e_add hK (dp_val (e_mul hK (dp_val (e_ix hr hC (dp_var 0 (pv 0)) (dp_val de_int))) (dp_val de_int))) (dp_val de_int))) dps_nil))) (dp_val de_int)) sc.nd rfl (by first | exact .inl rfl | exact .inr rfl) (by decide))
    (ds_seq (ds_ix (e_add hK (dp_val (e_mod (dp_val (b_int x.m_int (dps_cons (dp_val (e_add hK (dp_val (e_mul hK (dp_var 2 (pv 2)) (dp_val de_int))) (dp_val de_int))) dps_nil))) (dp_val de_int))) (dp_val de_int)) (pv 0) de_int)
    (ds_one (ds_ret (e_mod (dp_val (b_int x.m_int (dps_cons (dp_val (e_fdiv (dp_val (e_add hK (dp_val (e_mul hK (dp_var 2 (pv 2)) (dp_val de_int))) (dp_val (e_ix hr hC (dp_var 0 (pv 0)) (dp_val de_int))))) (dp_val de_int))) dps_nil))) (dp_var 1 (pv 1)))))))) : DSs _ c true E _ b_law_take)
theorem sc_law_pick : FnScope ["box", "some"] ["box", "some"] (defScope s_law_pick) := ⟨rfl, rfl, rfl, by decide +kernel, rfl, by decide +kernel, by decide +kernel⟩
theorem bn_law_pick : BindsP "_law_pick" s_law_pick ["box", "some"] := fun _ _ _ _ _ _ us h => match us, h with | [_, _], _ => rfl
def b_law_pick : SF :=
    (sRet (op2 dIx (.var 1) (.val (fCallIO d_law_take 0 [(.val (opN dLen [(.var 1)]))]))))
def d_law_pick : FD := runF 2 2 true b_law_pick
theorem ok_law_pick (x : Fx K mg) (hC : K = c.K ∧ c.P = P ∧ c.w = w) : Okd P w K mg base CX0 c "_law_pick" s_law_pick ["box", "some"] 2 true d_law_pick := by
    have hK := hC.1
    have sc := sc_law_pick
    exact okd_of (k := 1) x.n_law_pick sc (by decide) bn_law_pick fun f cdv A outer s H E hr => ((ds_one (ds_ret (e_ix hr hC (dp_var 1 (pv 1)) (dp_val (e_callIO (ok_law_take x hC) hr (by omega) uPass (pv 0) (dps_cons (dp_val (b_len hC x.m_len (dps_cons (dp_var 1 (pv 1)) dps_nil))) dps_nil)))))) : DSs _ c true E _ b_law_pick)
theorem sc_law_same : FnScope ["told", "due", "one", "other"] ["told", "due"] (defScope s_law_same) := ⟨rfl, rfl, rfl, by decide +kernel, rfl, by decide +kernel, by decide +kernel⟩
theorem bn_law_same : BindsP "_law_same" s_law_same ["told", "due"] := fun _ _ _ _ _ _ us h => match us, h with | [_, _], _ => rfl
def b_law_same (dn : FD) : SF :=
    (sSeq (sIf (tOf (.val (op1 (dIsi "tuple") (.var 1))))
    (sSeq (sIf (tOr' (tNo (tOf (.val (op1 (dIsi "tuple") (.var 0))))) (tOp2 dNe (.val (opN dLen [(.var 0)])) (.val (opN dLen [(.var 1)]))))
    (sRet (fC (.bl false)))
    sNil)
    (sSeq (sFor (fZip (fVar 0) (fVar 1)) (gT [(gN 2), (gN 3)])
    (sIf (tNo (tOf (.val (fCall dn [(.var 2), (.var 3)]))))
    (sRet (fC (.bl false)))
    sNil))
    (sRet (fC (.bl true)))))
    sNil)
    (sSeq (sIf (tOp2 dIsN (.var 1) (.val (fC .non)))
    (sRet (op2 (blO dIsN) (.var 0) (.val (fC .non))))
    sNil)
    (sSeq (sIf (tOr' (tOp2 dIsB (.var 1) (.val (fC (.bl true)))) (tOp2 dIsB (.var 1) (.val (fC (.bl false)))))
    (sRet (fAnd (.val (op1 (dIsi "bool") (.var 0))) (op2 (blO dEq) (.var 0) (.var 1))))
    sNil)
    (sSeq (sIf (tOf (.val (op1 (dIsi "int") (.var 1))))
    (sRet (fAnd (.val (op1 (dIsi "int") (.var 0))) (fAnd (.val (fNot (.val (op1 (dIsi "bool") (.var 0))))) (op2 (blO dEq) (.var 0) (.var 1)))))
    sNil)
    (sRet (fAnd (.val (op1 (dIsi "str") (.var 0))) (fAnd (.val (op1 (dIsi "str") (.var 1))) (op2 (blO dEq) (.var 0) (.var 1)))))))))
def d_law_same : Nat → FD
  | 0 => fun _ => .bad
  | n + 1 => runF 2 4 false (b_law_same (d_law_same n))
theorem ok_law_same (x : Fx K mg) (hC : K = c.K ∧ c.P = P ∧ c.w = w) : ∀ n, Okd P w K mg base CX0 c "_law_same" s_law_same ["told", "due"] (1 + n) false (d_law_same n)
  | 0 => okd_bad x.n_law_same sc_law_same bn_law_same
  | n + 1 => by
    have ih := ok_law_same x hC n
    have hK := hC.1
    have sc := sc_law_same
    exact okd_of x.n_law_same sc (by decide) bn_law_same fun f cdv A outer s H E hr => ((ds_seq (ds_if (dt_of (dp_val (de_isi (dp_var 1 (pv 1)) hK (by rfl) x.m_isinstance (by rfl) x.m_tuple (by rfl) (by decide) (by decide +kernel) (by decide))))
    (ds_seq (ds_if (dt_bool (dw_or (dt_not (dt_of (dp_val (de_isi (dp_var 0 (pv 0)) hK (by rfl) x.m_isinstance (by rfl) x.m_tuple (by rfl) (by decide) (by decide +kernel) (by decide))))) (dw_or1 (t_ne hr hK (dp_val (b_len hC x.m_len (dps_cons (dp_var 0 (pv 0)) dps_nil))) (dp_val (b_len hC x.m_len (dps_cons (dp_var 1 (pv 1)) dps_nil)))))))
    (ds_one (ds_ret de_bl))
    ds_nil)
    (ds_seq (ds_for (passes_of rfl) rfl (di_zip hK (da_cons (de_var 0 (pv 0)) (da_cons (de_var 1 (pv 1)) da_nil)) (by rfl) x.m_zip) (dg_tup hK rfl (.cons (dg_name (i := 2) sc.nd rfl (by first | exact .inl rfl | exact .inr rfl)) (by rfl) (.cons (dg_name (i := 3) sc.nd rfl (by first | exact .inl rfl | exact .inr rfl)) (by rfl) .nil))) (by decide)
    (ds_one (ds_if (dt_not (dt_of (dp_val (e_call ih hr (Nat.le_refl _) uPass (dps_cons (dp_var 2 (pv 2)) (dps_cons (dp_var 3 (pv 3)) dps_nil))))))
    (ds_one (ds_ret de_bl))
    ds_nil)))
    (ds_one (ds_ret de_bl))))
    ds_nil)
    (ds_seq (ds_if (t_isN (dp_var 1 (pv 1)) (dp_val de_non))
    (ds_one (ds_ret (c_isN (dp_var 0 (pv 0)) (dp_val de_non))))
    ds_nil)
    (ds_seq (ds_if (dt_bool (dw_or (t_isB (dp_var 1 (pv 1)) (dp_val de_bl)) (dw_or1 (t_isB (dp_var 1 (pv 1)) (dp_val de_bl)))))
    (ds_one (ds_ret (de_and (dp_val (de_isi (dp_var 0 (pv 0)) hK (by rfl) x.m_isinstance (by rfl) x.m_bool (by rfl) (by decide) (by decide +kernel) (by decide))) (de_one (c_eq hr hK (dp_var 0 (pv 0)) (dp_var 1 (pv 1)))))))
    ds_nil)
    (ds_seq (ds_if (dt_of (dp_val (de_isi (dp_var 1 (pv 1)) hK (by rfl) x.m_isinstance (by rfl) x.m_int (by rfl) (by decide) (by decide +kernel) (by decide))))
    (ds_one (ds_ret (de_and (dp_val (de_isi (dp_var 0 (pv 0)) hK (by rfl) x.m_isinstance (by rfl) x.m_int (by rfl) (by decide) (by decide +kernel) (by decide))) (de_and (dp_val (de_not (dp_val (de_isi (dp_var 0 (pv 0)) hK (by rfl) x.m_isinstance (by rfl) x.m_bool (by rfl) (by decide) (by decide +kernel) (by decide))))) (de_one (c_eq hr hK (dp_var 0 (pv 0)) (dp_var 1 (pv 1))))))))
    ds_nil)
    (ds_one (ds_ret (de_and (dp_val (de_isi (dp_var 0 (pv 0)) hK (by rfl) x.m_isinstance (by rfl) x.m_str (by rfl) (by decide) (by decide +kernel) (by decide))) (de_and (dp_val (de_isi (dp_var 1 (pv 1)) hK (by rfl) x.m_isinstance (by rfl) x.m_str (by rfl) (by decide) (by decide +kernel) (by decide))) (de_one (c_eq hr hK (dp_var 0 (pv 0)) (dp_var 1 (pv 1)))))))))))) : DSs _ c false E _ (b_law_same (d_law_same n)))
theorem sc_law_mixed : FnScope ["box", "some", "turn", "left", "found"] ["box", "some"] (defScope s_law_mixed) := ⟨rfl, rfl, rfl, by decide +kernel, rfl, by decide +kernel, by decide +kernel⟩
theorem bn_law_mixed : BindsP "_law_mixed" s_law_mixed ["box", "some"] := fun _ _ _ _ _ _ us h => match us, h with | [_, _], _ => rfl
def b_law_mixed : SF :=
    (sSeq (sPar [(3, (opN dList [(.var 1)])), (4, (fLst []))])
    (sSeq (sFor (fRg rg1 [(.val (opN dLen [(.var 1)]))]) (gN 2)
    (sExp (fMut mApp 4 [(fMut mPopAt 3 [(fCallIO d_law_take 0 [(.val (opN dLen [(.var 3)]))])])])))
    (sRet (fMv 4))))
def d_law_mixed : FD := runF 2 5 true b_law_mixed
theorem ok_law_mixed (x : Fx K mg) (hC : K = c.K ∧ c.P = P ∧ c.w = w) : Okd P w K mg base CX0 c "_law_mixed" s_law_mixed ["box", "some"] 2 true d_law_mixed := by
    have hK := hC.1
    have sc := sc_law_mixed
    exact okd_of (k := 1) x.n_law_mixed sc (by decide) bn_law_mixed fun f cdv A outer s H E hr => ((ds_seq (ds_par2 (i := 3) (j := 4) rfl sc.nd rfl rfl (by decide) rfl rfl (b_list rfl hC x.m_list (dps_cons (dp_var 1 (pv 1)) dps_nil)) (de_lst da_nil) (by decide) (by rfl))
    (ds_seq (ds_for (passes_of rfl) rfl (di_rg1 (dps_cons (dp_val (b_len hC x.m_len (dps_cons (dp_var 1 (pv 1)) dps_nil))) dps_nil) (by rfl) x.m_range) (dg_name (i := 2) sc.nd rfl (by first | exact .inl rfl | exact .inr rfl)) (by decide)
    (ds_one (ds_expr (de_mut gs_app mt_append PySem.F.slot_list_append PySem.F.type_list_append (pv 4) (da_cons (de_mut gs_popAt mt_popAt PySem.F.slot_list_pop PySem.F.type_list_pop (pv 3) (da_cons (e_callIO (ok_law_take x hC) hr (by omega) uPass (pv 0) (dps_cons (dp_val (b_len hC x.m_len (dps_cons (dp_var 3 (pv 3)) dps_nil))) dps_nil)) da_nil)) da_nil)))))
    (ds_one (ds_ret (de_mv 4 (pv 4)))))) : DSs _ c true E _ b_law_mixed)
theorem sc_law_map : FnScope ["system", "run", "found", "deed", "board"] ["system", "run"] (defScope s_law_map) := ⟨rfl, rfl, rfl, by decide +kernel, rfl, by decide +kernel, by decide +kernel⟩
theorem bn_law_map : BindsP "_law_map" s_law_map ["system", "run"] := fun _ _ _ _ _ _ us h => match us, h with | [_, _], _ => rfl
def b_law_map : SF :=
    (sSeq (sSet 2 (op1 dLstRg (.val (op2 dIx (.var 0) (.val (fC (.int 0)))))))
    (sSeq (sFor (fIt (fVar 1)) (gN 3)
    (sSet 2 (fLc [4] (fIt (fVar 2)) (gN 4) (tAll []) (op2 dIx (.val (op2 dIx (.val (op2 dIx (.var 0) (.val (fC (.int 1))))) (.var 3))) (.var 4)))))
    (sRet (opN dTuple [(.var 2)]))))
def d_law_map : FD := runF 2 5 false b_law_map
theorem ok_law_map (x : Fx K mg) (hC : K = c.K ∧ c.P = P ∧ c.w = w) : Okd P w K mg base CX0 c "_law_map" s_law_map ["system", "run"] 1 false d_law_map := by
    have hK := hC.1
    have sc := sc_law_map
    exact okd_of (k := 0) x.n_law_map sc (by decide) bn_law_map fun f cdv A outer s H E hr => ((ds_seq (ds_set (i := 2) (b_listRg rfl x.m_list x.m_range (dp_val (e_ix hr hC (dp_var 0 (pv 0)) (dp_val de_int)))) sc.nd rfl (by first | exact .inl rfl | exact .inr rfl) (by decide))
    (ds_seq (ds_for (passes_of rfl) rfl (di_val hC (de_var 1 (pv 1))) (dg_name (i := 3) sc.nd rfl (by first | exact .inl rfl | exact .inr rfl)) (by decide)
    (ds_one (ds_setLc (i := 2) (own := [("board", 4)]) rfl sc.nd rfl rfl (by decide) (sw_true rfl rfl rfl (by decide +kernel)) (di_val hC (de_var 2 (pv 2))) (blkOk_by (N := ["system", "run", "found", "deed", "board"]) (sc := defScope s_law_map) (by decide +kernel)) rfl (by decide) (fun _ _ _ _ _ => (dg_name (i := 4) sc.nd rfl (by first | exact .inl rfl | exact .inr rfl))) (fun _ _ _ _ _ => dts_nil) (fun _ _ _ _ _ => (e_ix hr hC (dp_val (e_ix hr hC (dp_val (e_ix hr hC (dp_var 0 (pv 0)) (dp_val de_int))) (dp_var 3 (pv 3)))) (dp_var 4 (pv 4)))))))
    (ds_one (ds_ret (b_tuple hK x.m_tuple (dps_cons (dp_var 2 (pv 2)) dps_nil)))))) : DSs _ c false E _ b_law_map)
theorem sc_law_rows : FnScope ["many", "most", "turn", "found", "level", "longer", "row", "one"] ["many", "most"] (defScope s_law_rows) := ⟨rfl, rfl, rfl, by decide +kernel, rfl, by decide +kernel, by decide +kernel⟩
theorem bn_law_rows : BindsP "_law_rows" s_law_rows ["many", "most"] := fun _ _ _ _ _ _ us h => match us, h with | [_, _], _ => rfl
def b_law_rows : SF :=
    (sSeq (sPar [(3, (fLst [(fTup [])])), (4, (fLst [(fTup [])]))])
    (sSeq (sFor (fRg rg1 [(.var 1)]) (gN 2)
    (sSeq (sSet 5 (fLst []))
    (sSeq (sFor (fIt (fVar 4)) (gN 6)
    (sSet 5 (op2 dAdd (.var 5) (.val (fLc [7] (fRg rg1 [(.var 0)]) (gN 7) (tOp2 dNotIn (.var 7) (.var 6)) (op2 dAdd (.var 6) (.val (fTup [(fVar 7)]))))))))
    (sPar [(3, (op2 dAdd (.var 3) (.var 5))), (4, (fVar 5))]))))
    (sRet (fMv 3))))
def d_law_rows : FD := runF 2 8 false b_law_rows
theorem ok_law_rows (x : Fx K mg) (hC : K = c.K ∧ c.P = P ∧ c.w = w) : Okd P w K mg base CX0 c "_law_rows" s_law_rows ["many", "most"] 1 false d_law_rows := by
    have hK := hC.1
    have sc := sc_law_rows
    exact okd_of (k := 0) x.n_law_rows sc (by decide) bn_law_rows fun f cdv A outer s H E hr => ((ds_seq (ds_par2 (i := 3) (j := 4) rfl sc.nd rfl rfl (by decide) rfl rfl (de_lst (da_cons (de_tup da_nil) da_nil)) (de_lst (da_cons (de_tup da_nil) da_nil)) (by decide) (by rfl))
    (ds_seq (ds_for (passes_of rfl) rfl (di_rg1 (dps_cons (dp_var 1 (pv 1)) dps_nil) (by rfl) x.m_range) (dg_name (i := 2) sc.nd rfl (by first | exact .inl rfl | exact .inr rfl)) (by decide)
    (ds_seq (ds_set (i := 5) (de_lst da_nil) sc.nd rfl (by first | exact .inl rfl | exact .inr rfl) (by decide))
    (ds_seq (ds_for (passes_of rfl) rfl (di_val hC (de_var 4 (pv 4))) (dg_name (i := 6) sc.nd rfl (by first | exact .inl rfl | exact .inr rfl)) (by decide)
    (ds_one (ds_set (i := 5) (e_add hK (dp_var 5 (pv 5)) (dp_val (de_lc (own := [("one", 7)]) rfl sc.nd (di_rg1 (dps_cons (dp_var 0 (pv 0)) dps_nil) (by rfl) x.m_range) (blkOk_by (N := ["many", "most", "turn", "found", "level", "longer", "row", "one"]) (sc := defScope s_law_rows) (by decide +kernel)) rfl (by decide) (fun _ _ _ _ _ => (dg_name (i := 7) sc.nd rfl (by first | exact .inl rfl | exact .inr rfl))) (fun _ _ _ _ _ => (dts_one (t_notIn hr hC (dp_var 7 (pv 7)) (dp_var 6 (pv 6))))) (fun _ _ _ _ _ => (e_add hK (dp_var 6 (pv 6)) (dp_val (de_tup (da_cons (de_var 7 (pv 7)) da_nil)))))))) sc.nd rfl (by first | exact .inl rfl | exact .inr rfl) (by decide))))
    (ds_one (ds_par2 (i := 3) (j := 4) rfl sc.nd rfl rfl (by decide) rfl rfl (e_add hK (dp_var 3 (pv 3)) (dp_var 5 (pv 5))) (de_var 5 (pv 5)) (by decide) (by rfl))))))
    (ds_one (ds_ret (de_mv 3 (pv 3)))))) : DSs _ c false E _ b_law_rows)
theorem sc_law_is_plain : FnScope ["system", "many", "run", "deed"] ["system"] (defScope s_law_is_plain) := ⟨rfl, rfl, rfl, by decide +kernel, rfl, by decide +kernel, by decide +kernel⟩
theorem bn_law_is_plain : BindsP "_law_is_plain" s_law_is_plain ["system"] := fun _ _ _ _ _ _ us h => match us, h with | [_], _ => rfl
def b_law_is_plain : SF :=
    (sSeq (sSet 1 (opN dLen [(.val (op2 dIx (.var 0) (.val (fC (.int 1)))))]))
    (sSeq (sFor (fIt (fCall d_law_rows [(.var 1), (.val (op2 dSub (.var 1) (.val (fC (.int 1)))))])) (gN 2)
    (sFor (fRg rg1 [(.var 1)]) (gN 3)
    (sIf (tAn (tOp2 dNotIn (.var 3) (.var 2)) (tOp2 dNe (.val (fCall d_law_map [(.var 0), (.val (op2 dAdd (.val (op2 dAdd (.val (fTup [(fVar 3)])) (.var 2))) (.val (fTup [(fVar 3)]))))])) (.val (fCall d_law_map [(.var 0), (.val (op2 dAdd (.var 2) (.val (fTup [(fVar 3)]))))]))))
    (sRet (fC (.bl false)))
    sNil)))
    (sRet (fC (.bl true)))))
def d_law_is_plain : FD := runF 1 4 false b_law_is_plain
theorem ok_law_is_plain (x : Fx K mg) (hC : K = c.K ∧ c.P = P ∧ c.w = w) : Okd P w K mg base CX0 c "_law_is_plain" s_law_is_plain ["system"] 2 false d_law_is_plain := by
    have hK := hC.1
    have sc := sc_law_is_plain
    exact okd_of (k := 1) x.n_law_is_plain sc (by decide) bn_law_is_plain fun f cdv A outer s H E hr => ((ds_seq (ds_set (i := 1) (b_len hC x.m_len (dps_cons (dp_val (e_ix hr hC (dp_var 0 (pv 0)) (dp_val de_int))) dps_nil)) sc.nd rfl (by first | exact .inl rfl | exact .inr rfl) (by decide))
    (ds_seq (ds_for (passes_of rfl) rfl (di_val hC (e_call (ok_law_rows x hC) hr (by omega) uPass (dps_cons (dp_var 1 (pv 1)) (dps_cons (dp_val (e_sub (dp_var 1 (pv 1)) (dp_val de_int))) dps_nil)))) (dg_name (i := 2) sc.nd rfl (by first | exact .inl rfl | exact .inr rfl)) (by decide)
    (ds_one (ds_for (passes_of rfl) rfl (di_rg1 (dps_cons (dp_var 1 (pv 1)) dps_nil) (by rfl) x.m_range) (dg_name (i := 3) sc.nd rfl (by first | exact .inl rfl | exact .inr rfl)) (by decide)
    (ds_one (ds_if (dt_bool (dw_and (t_notIn hr hC (dp_var 3 (pv 3)) (dp_var 2 (pv 2))) (dw_and1 (t_ne hr hK (dp_val (e_call (ok_law_map x hC) hr (by omega) uPass (dps_cons (dp_var 0 (pv 0)) (dps_cons (dp_val (e_add hK (dp_val (e_add hK (dp_val (de_tup (da_cons (de_var 3 (pv 3)) da_nil))) (dp_var 2 (pv 2)))) (dp_val (de_tup (da_cons (de_var 3 (pv 3)) da_nil))))) dps_nil)))) (dp_val (e_call (ok_law_map x hC) hr (by omega) uPass (dps_cons (dp_var 0 (pv 0)) (dps_cons (dp_val (e_add hK (dp_var 2 (pv 2)) (dp_val (de_tup (da_cons (de_var 3 (pv 3)) da_nil))))) dps_nil))))))))
    (ds_one (ds_ret de_bl))
    ds_nil)))))
    (ds_one (ds_ret de_bl)))) : DSs _ c false E _ b_law_is_plain)
theorem sc_law_set : FnScope ["part", "board", "one", "answer"] ["part", "board"] (defScope s_law_set) := ⟨rfl, rfl, rfl, by decide +kernel, rfl, by decide +kernel, by decide +kernel⟩
theorem bn_law_set : BindsP "_law_set" s_law_set ["part", "board"] := fun _ _ _ _ _ _ us h => match us, h with | [_, _], _ => rfl
def b_law_set : SF :=
    (sRet (opN dTuple [(.val (fLc [2, 3] (fZip (fVar 0) (fVar 1)) (gT [(gN 2), (gN 3)]) (tAll []) (fIf (tOp2 dIsN (.var 2) (.val (fC .non))) (fVar 3) (fVar 2))))]))
def d_law_set : FD := runF 2 4 false b_law_set
theorem ok_law_set (x : Fx K mg) (hC : K = c.K ∧ c.P = P ∧ c.w = w) : Okd P w K mg base CX0 c "_law_set" s_law_set ["part", "board"] 1 false d_law_set := by
    have hK := hC.1
    have sc := sc_law_set
    exact okd_of (k := 0) x.n_law_set sc (by decide) bn_law_set fun f cdv A outer s H E hr => ((ds_one (ds_ret (b_tuple hK x.m_tuple (dps_cons (dp_val (de_lc (own := [("one", 2), ("answer", 3)]) rfl sc.nd (di_zip hK (da_cons (de_var 0 (pv 0)) (da_cons (de_var 1 (pv 1)) da_nil)) (by rfl) x.m_zip) (blkOk_by (N := ["part", "board", "one", "answer"]) (sc := defScope s_law_set) (by decide +kernel)) rfl (by decide) (fun _ _ _ _ _ => (dg_tup hK rfl (.cons (dg_name (i := 2) sc.nd rfl (by first | exact .inl rfl | exact .inr rfl)) (by rfl) (.cons (dg_name (i := 3) sc.nd rfl (by first | exact .inl rfl | exact .inr rfl)) (by rfl) .nil)))) (fun _ _ _ _ _ => dts_nil) (fun _ _ _ _ _ => (de_if (t_isN (dp_var 2 (pv 2)) (dp_val de_non)) (de_var 3 (pv 3)) (de_var 2 (pv 2)))))) dps_nil)))) : DSs _ c false E _ b_law_set)
theorem sc_law_settings : FnScope ["box", "deeds", "sizes", "parts", "deed", "begun", "found", "board", "turn", "told", "part", "boards", "spots", "field", "there", "size"] ["box", "deeds"] (defScope s_law_settings) := ⟨rfl, rfl, rfl, by decide +kernel, rfl, by decide +kernel, by decide +kernel⟩
theorem bn_law_settings : BindsP "_law_settings" s_law_settings ["box", "deeds"] := fun _ _ _ _ _ _ us h => match us, h with | [_, _], _ => rfl
def b_law_settings_1 : SF :=
    (sExp (fMut mApp 3 [(opN dTuple [(.val (fLc [15] (fIt (fVar 2)) (gN 15) (tAll []) (fCallIO d_law_pick 0 [(.val (fLst [(fC .non), (fCallIO d_law_take 0 [(.var 15)]), (fCallIO d_law_take 0 [(.var 15)])]))])))])]))
def b_law_settings_2 : SF :=
    (sSeq (sSet 14 (fCall d_law_set [(.var 10), (.val (op2 dIx (.var 11) (.var 12)))]))
    (sIf (tOp2 dNotIn (.var 14) (.var 11))
    (sExp (fMut mApp 11 [(fVar 14)]))
    sNil))
def b_law_settings_3 : SF :=
    (sSeq (sFor (fIt (fVar 3)) (gN 10)
    b_law_settings_2)
    (sSet 12 (op2 dAdd (.var 12) (.val (fC (.int 1))))))
def b_law_settings_4 : SF :=
    (sSeq (sIf (tOp2 dEq (.var 12) (.val (opN dLen [(.var 11)])))
    sBk
    sNil)
    b_law_settings_3)
def b_law_settings_5 : SF :=
    (sExp (fMut mApp 9 [(opN dTuple [(.val (fLc [7] (fIt (fVar 11)) (gN 7) (tAll []) (fIndex (.var 11) (.val (fCall d_law_set [(.var 10), (.var 7)])))))])]))
def b_law_settings_6 : SF :=
    (sSeq (sFor (fIt (fVar 3)) (gN 10)
    b_law_settings_5)
    (sRet (fTup [(opN dLen [(.var 11)]), (opN dTuple [(.var 9)])])))
def b_law_settings_7 : SF :=
    (sSeq (sFor (fRg rg1 [(.val (fC (.int 60)))]) (gN 8)
    b_law_settings_4)
    (sSeq (sSet 9 (fLst []))
    b_law_settings_6))
def b_law_settings_8 : SF :=
    (sSeq (sFor (fIt (fVar 5)) (gN 7)
    (sIf (tOp2 dNotIn (.var 7) (.var 6))
    (sExp (fMut mApp 6 [(fVar 7)]))
    sNil))
    (sSeq (sPar [(11, (fMv 6)), (12, (fC (.int 0)))])
    b_law_settings_7))
def b_law_settings_9 : SF :=
    (sSeq (sSet 5 (fLc [8] (fRg rg1 [(.val (op2 dAdd (.val (fC (.int 1))) (.val (fCallIO d_law_take 0 [(.val (fC (.int 9)))]))))]) (gN 8) (tAll []) (opN dTuple [(.val (fLc [15] (fIt (fVar 2)) (gN 15) (tAll []) (fCallIO d_law_take 0 [(.var 15)])))])))
    (sSeq (sSet 6 (fLst []))
    b_law_settings_8))
def b_law_settings_10 : SF :=
    (sSeq (sSet 3 (fLst []))
    (sSeq (sFor (fRg rg1 [(.var 1)]) (gN 4)
    b_law_settings_1)
    b_law_settings_9))
def b_law_settings_11 : SF :=
    (sSeq (sSet 2 (fLc [13] (fRg rg1 [(.val (fCallIO d_law_pick 0 [(.val (fLst [(fC (.int 1)), (fC (.int 2)), (fC (.int 3)), (fC (.int 3))]))]))]) (gN 13) (tAll []) (op2 dAdd (.val (fC (.int 2))) (.val (fCallIO d_law_take 0 [(.val (fC (.int 2)))])))))
    b_law_settings_10)
def b_law_settings : SF :=
    b_law_settings_11
def d_law_settings : FD := runF 2 16 true b_law_settings
theorem ok_law_settings (x : Fx K mg) (hC : K = c.K ∧ c.P = P ∧ c.w = w) : Okd P w K mg base CX0 c "_law_settings" s_law_settings ["box", "deeds"] 3 true d_law_settings := by
    have hK := hC.1
    have sc := sc_law_settings
    exact okd_of (k := 2) x.n_law_settings sc (by decide) bn_law_settings fun f cdv A outer s H E hr => ((ds_seq (ds_set (i := 2) (de_lc (own := [("field", 13)]) rfl sc.nd (di_rg1 (dps_cons (dp_val (e_callIO (ok_law_pick x hC) hr (by omega) uPass (pv 0) (dps_cons (dp_val (de_lst (da_cons de_int (da_cons de_int (da_cons de_int (da_cons de_int da_nil)))))) dps_nil))) dps_nil) (by rfl) x.m_range) (blkOk_by (N := ["box", "deeds", "sizes", "parts", "deed", "begun", "found", "board", "turn", "told", "part", "boards", "spots", "field", "there", "size"]) (sc := defScope s_law_settings) (by decide +kernel)) rfl (by decide) (fun _ _ _ _ _ => (dg_name (i := 13) sc.nd rfl (by first | exact .inl rfl | exact .inr rfl))) (fun _ _ _ _ _ => dts_nil) (fun _ _ _ _ _ => (e_add hK (dp_val de_int) (dp_val (e_callIO (ok_law_take x hC) hr (by omega) uPass (pv 0) (dps_cons (dp_val de_int) dps_nil)))))) sc.nd rfl (by first | exact .inl rfl | exact .inr rfl) (by decide))
    (ds_seq (ds_set (i := 3) (de_lst da_nil) sc.nd rfl (by first | exact .inl rfl | exact .inr rfl) (by decide))
    (ds_seq (ds_for (passes_of rfl) rfl (di_rg1 (dps_cons (dp_var 1 (pv 1)) dps_nil) (by rfl) x.m_range) (dg_name (i := 4) sc.nd rfl (by first | exact .inl rfl | exact .inr rfl)) (by decide)
    (ds_one (ds_expr (de_mut gs_app mt_append PySem.F.slot_list_append PySem.F.type_list_append (pv 3) (da_cons (b_tuple hK x.m_tuple (dps_cons (dp_val (de_lc (own := [("size", 15)]) rfl sc.nd (di_val hC (de_var 2 (pv 2))) (blkOk_by (N := ["box", "deeds", "sizes", "parts", "deed", "begun", "found", "board", "turn", "told", "part", "boards", "spots", "field", "there", "size"]) (sc := defScope s_law_settings) (by decide +kernel)) rfl (by decide) (fun _ _ _ _ _ => (dg_name (i := 15) sc.nd rfl (by first | exact .inl rfl | exact .inr rfl))) (fun _ _ _ _ _ => dts_nil) (fun _ _ _ _ _ => (e_callIO (ok_law_pick x hC) hr (by omega) uPass (pv 0) (dps_cons (dp_val (de_lst (da_cons de_non (da_cons (e_callIO (ok_law_take x hC) hr (by omega) uPass (pv 0) (dps_cons (dp_var 15 (pv 15)) dps_nil)) (da_cons (e_callIO (ok_law_take x hC) hr (by omega) uPass (pv 0) (dps_cons (dp_var 15 (pv 15)) dps_nil)) da_nil))))) dps_nil))))) dps_nil)) da_nil)))))
    (ds_seq (ds_setLc (i := 5) (own := [("turn", 8)]) rfl sc.nd rfl rfl (by decide) (sw_true rfl rfl rfl (by decide +kernel)) (di_rg1 (dps_cons (dp_val (e_add hK (dp_val de_int) (dp_val (e_callIO (ok_law_take x hC) hr (by omega) uPass (pv 0) (dps_cons (dp_val de_int) dps_nil))))) dps_nil) (by rfl) x.m_range) (blkOk_by (N := ["box", "deeds", "sizes", "parts", "deed", "begun", "found", "board", "turn", "told", "part", "boards", "spots", "field", "there", "size"]) (sc := defScope s_law_settings) (by decide +kernel)) rfl (by decide) (fun _ _ _ _ _ => (dg_name (i := 8) sc.nd rfl (by first | exact .inl rfl | exact .inr rfl))) (fun _ _ _ _ _ => dts_nil) (fun _ _ _ _ _ => (b_tuple hK x.m_tuple (dps_cons (dp_val (de_lc (own := [("size", 15)]) rfl sc.nd (di_val hC (de_var 2 (pv 2))) (blkOk_by (by rfl)) rfl (by decide) (fun _ _ _ _ _ => (dg_name (i := 15) sc.nd rfl (by first | exact .inl rfl | exact .inr rfl))) (fun _ _ _ _ _ => dts_nil) (fun _ _ _ _ _ => (e_callIO (ok_law_take x hC) hr (by omega) uPass (pv 0) (dps_cons (dp_var 15 (pv 15)) dps_nil))))) dps_nil))))
    (ds_seq (ds_set (i := 6) (de_lst da_nil) sc.nd rfl (by first | exact .inl rfl | exact .inr rfl) (by decide))
    (ds_seq (ds_for (passes_of rfl) rfl (di_val hC (de_var 5 (pv 5))) (dg_name (i := 7) sc.nd rfl (by first | exact .inl rfl | exact .inr rfl)) (by decide)
    (ds_one (ds_if (t_notIn hr hC (dp_var 7 (pv 7)) (dp_var 6 (pv 6)))
    (ds_one (ds_expr (de_mut gs_app mt_append PySem.F.slot_list_append PySem.F.type_list_append (pv 6) (da_cons (de_var 7 (pv 7)) da_nil))))
    ds_nil)))
    (ds_seq (ds_par2c (i := 11) (j := 12) hK rfl sc.nd rfl rfl (by decide) (by first | exact .inl rfl | exact .inr rfl) (by first | exact .inl rfl | exact .inr rfl) (de_mv 6 (pv 6)) de_int (by decide))
    (ds_seq (ds_for (passes_of rfl) rfl (di_rg1 (dps_cons (dp_val de_int) dps_nil) (by rfl) x.m_range) (dg_name (i := 8) sc.nd rfl (by first | exact .inl rfl | exact .inr rfl)) (by decide)
    (ds_seq (ds_if (t_eq hr hK (dp_var 12 (pv 12)) (dp_val (b_len hC x.m_len (dps_cons (dp_var 11 (pv 11)) dps_nil))))
    (ds_one ds_break)
    ds_nil)
    (ds_seq (ds_for (passes_of rfl) rfl (di_val hC (de_var 3 (pv 3))) (dg_name (i := 10) sc.nd rfl (by first | exact .inl rfl | exact .inr rfl)) (by decide)
    (ds_seq (ds_set (i := 14) (e_call (ok_law_set x hC) hr (by omega) uPass (dps_cons (dp_var 10 (pv 10)) (dps_cons (dp_val (e_ix hr hC (dp_var 11 (pv 11)) (dp_var 12 (pv 12)))) dps_nil))) sc.nd rfl (by first | exact .inl rfl | exact .inr rfl) (by decide))
    (ds_one (ds_if (t_notIn hr hC (dp_var 14 (pv 14)) (dp_var 11 (pv 11)))
    (ds_one (ds_expr (de_mut gs_app mt_append PySem.F.slot_list_append PySem.F.type_list_append (pv 11) (da_cons (de_var 14 (pv 14)) da_nil))))
    ds_nil))))
    (ds_one (ds_set (i := 12) (e_add hK (dp_var 12 (pv 12)) (dp_val de_int)) sc.nd rfl (by first | exact .inl rfl | exact .inr rfl) (by decide))))))
    (ds_seq (ds_set (i := 9) (de_lst da_nil) sc.nd rfl (by first | exact .inl rfl | exact .inr rfl) (by decide))
    (ds_seq (ds_for (passes_of rfl) rfl (di_val hC (de_var 3 (pv 3))) (dg_name (i := 10) sc.nd rfl (by first | exact .inl rfl | exact .inr rfl)) (by decide)
    (ds_one (ds_expr (de_mut gs_app mt_append PySem.F.slot_list_append PySem.F.type_list_append (pv 9) (da_cons (b_tuple hK x.m_tuple (dps_cons (dp_val (de_lc (own := [("board", 7)]) rfl sc.nd (di_val hC (de_var 11 (pv 11))) (blkOk_by (N := ["box", "deeds", "sizes", "parts", "deed", "begun", "found", "board", "turn", "told", "part", "boards", "spots", "field", "there", "size"]) (sc := defScope s_law_settings) (by decide +kernel)) rfl (by decide) (fun _ _ _ _ _ => (dg_name (i := 7) sc.nd rfl (by first | exact .inl rfl | exact .inr rfl))) (fun _ _ _ _ _ => dts_nil) (fun _ _ _ _ _ => (b_index (hu65 hr) hK (dp_var 11 (pv 11)) (dp_val (e_call (ok_law_set x hC) hr (by omega) uPass (dps_cons (dp_var 10 (pv 10)) (dps_cons (dp_var 7 (pv 7)) dps_nil)))))))) dps_nil)) da_nil)))))
    (ds_one (ds_ret (de_tup (da_cons (b_len hC x.m_len (dps_cons (dp_var 11 (pv 11)) dps_nil)) (da_cons (b_tuple hK x.m_tuple (dps_cons (dp_var 9 (pv 9)) dps_nil)) da_nil))))))))))))))) : DSs _ c true E _ b_law_settings)
theorem sc_law_orders : FnScope ["many", "row"] ["many"] (defScope s_law_orders) := ⟨rfl, rfl, rfl, by decide +kernel, rfl, by decide +kernel, by decide +kernel⟩
theorem bn_law_orders : BindsP "_law_orders" s_law_orders ["many"] := fun _ _ _ _ _ _ us h => match us, h with | [_], _ => rfl
def b_law_orders : SF :=
    (sRet (fLc [1] (fIt (fCall d_law_rows [(.var 0), (.var 0)])) (gN 1) (tOp2 dEq (.val (opN dLen [(.var 1)])) (.var 0)) (fVar 1)))
def d_law_orders : FD := runF 1 2 false b_law_orders
theorem ok_law_orders (x : Fx K mg) (hC : K = c.K ∧ c.P = P ∧ c.w = w) : Okd P w K mg base CX0 c "_law_orders" s_law_orders ["many"] 2 false d_law_orders := by
    have hK := hC.1
    have sc := sc_law_orders
    exact okd_of (k := 1) x.n_law_orders sc (by decide) bn_law_orders fun f cdv A outer s H E hr => ((ds_one (ds_ret (de_lc (own := [("row", 1)]) rfl sc.nd (di_val hC (e_call (ok_law_rows x hC) hr (by omega) uPass (dps_cons (dp_var 0 (pv 0)) (dps_cons (dp_var 0 (pv 0)) dps_nil)))) (blkOk_by (N := ["many", "row"]) (sc := defScope s_law_orders) (by decide +kernel)) rfl (by decide) (fun _ _ _ _ _ => (dg_name (i := 1) sc.nd rfl (by first | exact .inl rfl | exact .inr rfl))) (fun _ _ _ _ _ => (dts_one (t_eq hr hK (dp_val (b_len hC x.m_len (dps_cons (dp_var 1 (pv 1)) dps_nil))) (dp_var 0 (pv 0))))) (fun _ _ _ _ _ => (de_var 1 (pv 1)))))) : DSs _ c false E _ b_law_orders)
theorem sc_law_front : FnScope ["order", "lot", "name"] ["order", "lot"] (defScope s_law_front) := ⟨rfl, rfl, rfl, by decide +kernel, rfl, by decide +kernel, by decide +kernel⟩
theorem bn_law_front : BindsP "_law_front" s_law_front ["order", "lot"] := fun _ _ _ _ _ _ us h => match us, h with | [_, _], _ => rfl
def b_law_front : SF :=
    (sRet (op2 dAdd (.val (opN dTuple [(.var 1)])) (.val (opN dTuple [(.val (fLc [2] (fIt (fVar 0)) (gN 2) (tOp2 dNotIn (.var 2) (.var 1)) (fVar 2)))]))))
def d_law_front : FD := runF 2 3 false b_law_front
theorem ok_law_front (x : Fx K mg) (hC : K = c.K ∧ c.P = P ∧ c.w = w) : Okd P w K mg base CX0 c "_law_front" s_law_front ["order", "lot"] 1 false d_law_front := by
    have hK := hC.1
    have sc := sc_law_front
    exact okd_of (k := 0) x.n_law_front sc (by decide) bn_law_front fun f cdv A outer s H E hr => ((ds_one (ds_ret (e_add hK (dp_val (b_tuple hK x.m_tuple (dps_cons (dp_var 1 (pv 1)) dps_nil))) (dp_val (b_tuple hK x.m_tuple (dps_cons (dp_val (de_lc (own := [("name", 2)]) rfl sc.nd (di_val hC (de_var 0 (pv 0))) (blkOk_by (N := ["order", "lot", "name"]) (sc := defScope s_law_front) (by decide +kernel)) rfl (by decide) (fun _ _ _ _ _ => (dg_name (i := 2) sc.nd rfl (by first | exact .inl rfl | exact .inr rfl))) (fun _ _ _ _ _ => (dts_one (t_notIn hr hC (dp_var 2 (pv 2)) (dp_var 1 (pv 1))))) (fun _ _ _ _ _ => (de_var 2 (pv 2))))) dps_nil)))))) : DSs _ c false E _ b_law_front)
theorem sc_law_fronts : FnScope ["box", "names", "deeds", "deed", "orders", "told", "lot", "order"] ["box", "names", "deeds"] (defScope s_law_fronts) := ⟨rfl, rfl, rfl, by decide +kernel, rfl, by decide +kernel, by decide +kernel⟩
theorem bn_law_fronts : BindsP "_law_fronts" s_law_fronts ["box", "names", "deeds"] := fun _ _ _ _ _ _ us h => match us, h with | [_, _, _], _ => rfl
def b_law_fronts : SF :=
    (sSeq (sPar [(4, (fCall d_law_orders [(.var 1)])), (5, (fLst []))])
    (sSeq (sFor (fRg rg1 [(.var 2)]) (gN 3)
    (sSeq (sSet 6 (fSl (.val (fCallIO d_law_mixed 0 [(.val (op1 dLstRg (.var 1)))])) none (some (fCallIO d_law_pick 0 [(.val (fLst [(fC (.int 1)), (fC (.int 1)), (fC (.int 1)), (fC (.int 2))]))]))))
    (sExp (fMut mApp 5 [(opN dTuple [(.val (fLc [7] (fIt (fVar 4)) (gN 7) (tAll []) (fIndex (.var 4) (.val (fCall d_law_front [(.var 7), (.var 6)])))))])]))))
    (sRet (fTup [(opN dLen [(.var 4)]), (opN dTuple [(.var 5)])]))))
def d_law_fronts : FD := runF 3 8 true b_law_fronts
theorem ok_law_fronts (x : Fx K mg) (hC : K = c.K ∧ c.P = P ∧ c.w = w) : Okd P w K mg base CX0 c "_law_fronts" s_law_fronts ["box", "names", "deeds"] 3 true d_law_fronts := by
    have hK := hC.1
    have sc := sc_law_fronts
    exact okd_of (k := 2) x.n_law_fronts sc (by decide) bn_law_fronts fun f cdv A outer s H E hr => ((ds_seq (ds_par2c (i := 4) (j := 5) hK rfl sc.nd rfl rfl (by decide) (by first | exact .inl rfl | exact .inr rfl) (by first | exact .inl rfl | exact .inr rfl) (e_call (ok_law_orders x hC) hr (by omega) uPass (dps_cons (dp_var 1 (pv 1)) dps_nil)) (de_lst da_nil) (by decide))
    (ds_seq (ds_for (passes_of rfl) rfl (di_rg1 (dps_cons (dp_var 2 (pv 2)) dps_nil) (by rfl) x.m_range) (dg_name (i := 3) sc.nd rfl (by first | exact .inl rfl | exact .inr rfl)) (by decide)
    (ds_seq (ds_set (i := 6) (de_slice hK (dp_val (e_callIO (ok_law_mixed x hC) hr (by omega) uPass (pv 0) (dps_cons (dp_val (b_listRg rfl x.m_list x.m_range (dp_var 1 (pv 1)))) dps_nil))) do_none (do_some (e_callIO (ok_law_pick x hC) hr (by omega) uPass (pv 0) (dps_cons (dp_val (de_lst (da_cons de_int (da_cons de_int (da_cons de_int (da_cons de_int da_nil)))))) dps_nil)))) sc.nd rfl (by first | exact .inl rfl | exact .inr rfl) (by decide))
    (ds_one (ds_expr (de_mut gs_app mt_append PySem.F.slot_list_append PySem.F.type_list_append (pv 5) (da_cons (b_tuple hK x.m_tuple (dps_cons (dp_val (de_lc (own := [("order", 7)]) rfl sc.nd (di_val hC (de_var 4 (pv 4))) (blkOk_by (N := ["box", "names", "deeds", "deed", "orders", "told", "lot", "order"]) (sc := defScope s_law_fronts) (by decide +kernel)) rfl (by decide) (fun _ _ _ _ _ => (dg_name (i := 7) sc.nd rfl (by first | exact .inl rfl | exact .inr rfl))) (fun _ _ _ _ _ => dts_nil) (fun _ _ _ _ _ => (b_index (hu65 hr) hK (dp_var 4 (pv 4)) (dp_val (e_call (ok_law_front x hC) hr (by omega) uPass (dps_cons (dp_var 7 (pv 7)) (dps_cons (dp_var 6 (pv 6)) dps_nil)))))))) dps_nil)) da_nil))))))
    (ds_one (ds_ret (de_tup (da_cons (b_len hC x.m_len (dps_cons (dp_var 4 (pv 4)) dps_nil)) (da_cons (b_tuple hK x.m_tuple (dps_cons (dp_var 5 (pv 5)) dps_nil)) da_nil))))))) : DSs _ c true E _ b_law_fronts)
theorem sc_law_few : FnScope ["box", "deeds", "turn", "many", "told", "deed", "kept", "board"] ["box", "deeds"] (defScope s_law_few) := ⟨rfl, rfl, rfl, by decide +kernel, rfl, by decide +kernel, by decide +kernel⟩
theorem bn_law_few : BindsP "_law_few" s_law_few ["box", "deeds"] := fun _ _ _ _ _ _ us h => match us, h with | [_, _], _ => rfl
def b_law_few : SF :=
    (sSeq (sFor (fRg rg1 [(.val (fC (.int 8)))]) (gN 2)
    (sSeq (sSet 3 (op2 dAdd (.val (fC (.int 2))) (.val (fCallIO d_law_take 0 [(.val (fC (.int 4)))]))))
    (sSeq (sSet 4 (fLst []))
    (sSeq (sFor (fRg rg1 [(.var 1)]) (gN 5)
    (sSeq (sSet 6 (fSl (.val (fCallIO d_law_mixed 0 [(.val (op1 dLstRg (.var 3)))])) none (some (op2 dAdd (.val (fC (.int 1))) (.val (fCallIO d_law_take 0 [(.var 3)]))))))
    (sExp (fMut mApp 4 [(opN dTuple [(.val (fLc [7] (fRg rg1 [(.var 3)]) (gN 7) (tAll []) (fIf (tOp2 dIn (.var 7) (.var 6)) (fVar 7) (fCallIO d_law_pick 0 [(.var 6)]))))])]))))
    (sIf (tOf (.val (fCall d_law_is_plain [(.val (fTup [(fVar 3), (opN dTuple [(.var 4)])]))])))
    (sRet (fTup [(fVar 3), (opN dTuple [(.var 4)])]))
    sNil)))))
    (sRet (fCallIO d_law_settings 0 [(.var 1)])))
def d_law_few : FD := runF 2 8 true b_law_few
theorem ok_law_few (x : Fx K mg) (hC : K = c.K ∧ c.P = P ∧ c.w = w) : Okd P w K mg base CX0 c "_law_few" s_law_few ["box", "deeds"] 4 true d_law_few := by
    have hK := hC.1
    have sc := sc_law_few
    exact okd_of (k := 3) x.n_law_few sc (by decide) bn_law_few fun f cdv A outer s H E hr => ((ds_seq (ds_for (passes_of rfl) rfl (di_rg1 (dps_cons (dp_val de_int) dps_nil) (by rfl) x.m_range) (dg_name (i := 2) sc.nd rfl (by first | exact .inl rfl | exact .inr rfl)) (by decide)
    (ds_seq (ds_set (i := 3) (e_add hK (dp_val de_int) (dp_val (e_callIO (ok_law_take x hC) hr (by omega) uPass (pv 0) (dps_cons (dp_val de_int) dps_nil)))) sc.nd rfl (by first | exact .inl rfl | exact .inr rfl) (by decide))
    (ds_seq (ds_set (i := 4) (de_lst da_nil) sc.nd rfl (by first | exact .inl rfl | exact .inr rfl) (by decide))
    (ds_seq (ds_for (passes_of rfl) rfl (di_rg1 (dps_cons (dp_var 1 (pv 1)) dps_nil) (by rfl) x.m_range) (dg_name (i := 5) sc.nd rfl (by first | exact .inl rfl | exact .inr rfl)) (by decide)
    (ds_seq (ds_set (i := 6) (de_slice hK (dp_val (e_callIO (ok_law_mixed x hC) hr (by omega) uPass (pv 0) (dps_cons (dp_val (b_listRg rfl x.m_list x.m_range (dp_var 3 (pv 3)))) dps_nil))) do_none (do_some (e_add hK (dp_val de_int) (dp_val (e_callIO (ok_law_take x hC) hr (by omega) uPass (pv 0) (dps_cons (dp_var 3 (pv 3)) dps_nil)))))) sc.nd rfl (by first | exact .inl rfl | exact .inr rfl) (by decide))
    (ds_one (ds_expr (de_mut gs_app mt_append PySem.F.slot_list_append PySem.F.type_list_append (pv 4) (da_cons (b_tuple hK x.m_tuple (dps_cons (dp_val (de_lc (own := [("board", 7)]) rfl sc.nd (di_rg1 (dps_cons (dp_var 3 (pv 3)) dps_nil) (by rfl) x.m_range) (blkOk_by (N := ["box", "deeds", "turn", "many", "told", "deed", "kept", "board"]) (sc := defScope s_law_few) (by decide +kernel)) rfl (by decide) (fun _ _ _ _ _ => (dg_name (i := 7) sc.nd rfl (by first | exact .inl rfl | exact .inr rfl))) (fun _ _ _ _ _ => dts_nil) (fun _ _ _ _ _ => (de_if (t_in hr hC (dp_var 7 (pv 7)) (dp_var 6 (pv 6))) (de_var 7 (pv 7)) (e_callIO (ok_law_pick x hC) hr (by omega) uPass (pv 0) (dps_cons (dp_var 6 (pv 6)) dps_nil)))))) dps_nil)) da_nil))))))
    (ds_one (ds_if (dt_of (dp_val (e_call (ok_law_is_plain x hC) hr (by omega) uPass (dps_cons (dp_val (de_tup (da_cons (de_var 3 (pv 3)) (da_cons (b_tuple hK x.m_tuple (dps_cons (dp_var 4 (pv 4)) dps_nil)) da_nil)))) dps_nil))))
    (ds_one (ds_ret (de_tup (da_cons (de_var 3 (pv 3)) (da_cons (b_tuple hK x.m_tuple (dps_cons (dp_var 4 (pv 4)) dps_nil)) da_nil)))))
    ds_nil))))))
    (ds_one (ds_ret (e_callIO (ok_law_settings x hC) hr (by omega) uPass (pv 0) (dps_cons (dp_var 1 (pv 1)) dps_nil))))) : DSs _ c true E _ b_law_few)
theorem sc_law_glued : FnScope ["box", "system", "pairs", "spot", "order", "deeds", "deed", "many", "name", "one", "two", "row", "here", "there", "alike", "board", "other"] ["box", "system"] (defScope s_law_glued) := ⟨rfl, rfl, rfl, by decide +kernel, rfl, by decide +kernel, by decide +kernel⟩
theorem bn_law_glued : BindsP "_law_glued" s_law_glued ["box", "system"] := fun _ _ _ _ _ _ us h => match us, h with | [_, _], _ => rfl
def b_law_glued_1 : SF :=
    (sSet 2 (op2 dAdd (.var 2) (.val (fLc [16] (fIt (fSl (.var 14) (some (fC (.int 1))) none)) (gN 16) (tAll []) (fTup [(op2 dIx (.var 14) (.val (fC (.int 0)))), (fVar 16)])))))
def b_law_glued_2 : SF :=
    (sSeq (sSet 14 (fLc [15] (fRg rg1 [(.var 7)]) (gN 15) (tOp2 dEq (.val (op2 dIx (.var 8) (.var 15))) (.var 12)) (op2 dIx (.var 6) (.var 15))))
    b_law_glued_1)
def b_law_glued_3 : SF :=
    (sSeq (sSet 8 (fLc [9] (fIt (fVar 8)) (gN 9) (tAll []) (fIf (tOp2 dEq (.var 9) (.var 13)) (fVar 12) (fVar 9))))
    (sFor (fIt (op2 dIx (.var 1) (.val (fC (.int 1))))) (gN 6)
    b_law_glued_2))
def b_law_glued_4 : SF :=
    (sSeq (sPar [(12, (op2 dIx (.var 8) (.val (op2 dIx (.val (op2 dIx (.var 2) (.var 3))) (.val (fC (.int 0))))))), (13, (op2 dIx (.var 8) (.val (op2 dIx (.val (op2 dIx (.var 2) (.var 3))) (.val (fC (.int 1)))))))])
    (sIf (tOp2 dNe (.var 12) (.var 13))
    b_law_glued_3
    sNil))
def b_law_glued_5 : SF :=
    (sSeq (sIf (tOp2 dGe (.var 3) (.val (opN dLen [(.var 2)])))
    sBk
    sNil)
    b_law_glued_4)
def b_law_glued_6 : SF :=
    (sExp (fMut mApp 11 [(fIndex (.var 4) (.val (op2 dIx (.var 8) (.val (op2 dIx (.var 6) (.val (fIndex (.var 8) (.var 9))))))))]))
def b_law_glued_7 : SF :=
    (sSeq (sFor (fIt (fVar 4)) (gN 9)
    b_law_glued_6)
    (sExp (fMut mApp 5 [(opN dTuple [(.var 11)])])))
def b_law_glued_8 : SF :=
    (sSeq (sFor (fIt (op2 dIx (.var 1) (.val (fC (.int 1))))) (gN 6)
    (sSeq (sSet 11 (fLst []))
    b_law_glued_7))
    (sRet (fTup [(opN dLen [(.var 4)]), (opN dTuple [(.var 5)])])))
def b_law_glued_9 : SF :=
    (sSeq (sIf (tOp2 dGt (.val (opN dLen [(.var 2)])) (.val (op2 dAdd (.val (op2 dMul (.var 7) (.val (fC (.int 9))))) (.val (fC (.int 8))))))
    (sRet (fMv 1))
    sNil)
    (sSeq (sSet 5 (fLst []))
    b_law_glued_8))
def b_law_glued_10 : SF :=
    (sSeq (sFor (fRg rg1 [(.val (op2 dAdd (.val (op2 dMul (.var 7) (.val (fC (.int 9))))) (.val (fC (.int 9)))))]) (gN 3)
    b_law_glued_5)
    (sSeq (sSet 4 (opN dSortSet [(.var 8)]))
    b_law_glued_9))
def b_law_glued_11 : SF :=
    (sSeq (sPar [(9, (fCallIO d_law_take 0 [(.var 7)])), (10, (fCallIO d_law_take 0 [(.var 7)]))])
    (sSeq (sSet 2 (fLst [(fTup [(fVar 9), (fVar 10)])]))
    b_law_glued_10))
def b_law_glued_12 : SF :=
    (sSeq (sPar [(7, (op2 dIx (.var 1) (.val (fC (.int 0))))), (8, (op1 dLstRg (.val (op2 dIx (.var 1) (.val (fC (.int 0)))))))])
    b_law_glued_11)
def b_law_glued : SF :=
    b_law_glued_12
def d_law_glued : FD := runF 2 17 true b_law_glued
theorem ok_law_glued (x : Fx K mg) (hC : K = c.K ∧ c.P = P ∧ c.w = w) : Okd P w K mg base CX0 c "_law_glued" s_law_glued ["box", "system"] 2 true d_law_glued := by
    have hK := hC.1
    have sc := sc_law_glued
    exact okd_of (k := 1) x.n_law_glued sc (by decide) bn_law_glued fun f cdv A outer s H E hr => ((ds_seq (ds_par2c (i := 7) (j := 8) hK rfl sc.nd rfl rfl (by decide) (by first | exact .inl rfl | exact .inr rfl) (by first | exact .inl rfl | exact .inr rfl) (e_ix hr hC (dp_var 1 (pv 1)) (dp_val de_int)) (b_listRg rfl x.m_list x.m_range (dp_val (e_ix hr hC (dp_var 1 (pv 1)) (dp_val de_int)))) (by decide))
    (ds_seq (ds_par2 (i := 9) (j := 10) rfl sc.nd rfl rfl (by decide) rfl rfl (e_callIO (ok_law_take x hC) hr (by omega) uPass (pv 0) (dps_cons (dp_var 7 (pv 7)) dps_nil)) (e_callIO (ok_law_take x hC) hr (by omega) uPass (pv 0) (dps_cons (dp_var 7 (pv 7)) dps_nil)) (by decide) (by rfl))
    (ds_seq (ds_set (i := 2) (de_lst (da_cons (de_tup (da_cons (de_var 9 (pv 9)) (da_cons (de_var 10 (pv 10)) da_nil))) da_nil)) sc.nd rfl (by first | exact .inl rfl | exact .inr rfl) (by decide))
    (ds_seq (ds_for (passes_of rfl) rfl (di_rg1 (dps_cons (dp_val (e_add hK (dp_val (e_mul hK (dp_var 7 (pv 7)) (dp_val de_int))) (dp_val de_int))) dps_nil) (by rfl) x.m_range) (dg_name (i := 3) sc.nd rfl (by first | exact .inl rfl | exact .inr rfl)) (by decide)
    (ds_seq (ds_if (t_ge (dp_var 3 (pv 3)) (dp_val (b_len hC x.m_len (dps_cons (dp_var 2 (pv 2)) dps_nil))))
    (ds_one ds_break)
    ds_nil)
    (ds_seq (ds_par2c (i := 12) (j := 13) hK rfl sc.nd rfl rfl (by decide) (by first | exact .inl rfl | exact .inr rfl) (by first | exact .inl rfl | exact .inr rfl) (e_ix hr hC (dp_var 8 (pv 8)) (dp_val (e_ix hr hC (dp_val (e_ix hr hC (dp_var 2 (pv 2)) (dp_var 3 (pv 3)))) (dp_val de_int)))) (e_ix hr hC (dp_var 8 (pv 8)) (dp_val (e_ix hr hC (dp_val (e_ix hr hC (dp_var 2 (pv 2)) (dp_var 3 (pv 3)))) (dp_val de_int)))) (by decide))
    (ds_one (ds_if (t_ne hr hK (dp_var 12 (pv 12)) (dp_var 13 (pv 13)))
    (ds_seq (ds_set (i := 8) (de_lc (own := [("one", 9)]) rfl sc.nd (di_val hC (de_var 8 (pv 8))) (blkOk_by (N := ["box", "system", "pairs", "spot", "order", "deeds", "deed", "many", "name", "one", "two", "row", "here", "there", "alike", "board", "other"]) (sc := defScope s_law_glued) (by decide +kernel)) rfl (by decide) (fun _ _ _ _ _ => (dg_name (i := 9) sc.nd rfl (by first | exact .inl rfl | exact .inr rfl))) (fun _ _ _ _ _ => dts_nil) (fun _ _ _ _ _ => (de_if (t_eq hr hK (dp_var 9 (pv 9)) (dp_var 13 (pv 13))) (de_var 12 (pv 12)) (de_var 9 (pv 9))))) sc.nd rfl (by first | exact .inl rfl | exact .inr rfl) (by decide))
    (ds_one (ds_for (passes_of rfl) rfl (di_val hC (e_ix hr hC (dp_var 1 (pv 1)) (dp_val de_int))) (dg_name (i := 6) sc.nd rfl (by first | exact .inl rfl | exact .inr rfl)) (by decide)
    (ds_seq (ds_set (i := 14) (de_lc (own := [("board", 15)]) rfl sc.nd (di_rg1 (dps_cons (dp_var 7 (pv 7)) dps_nil) (by rfl) x.m_range) (blkOk_by (N := ["box", "system", "pairs", "spot", "order", "deeds", "deed", "many", "name", "one", "two", "row", "here", "there", "alike", "board", "other"]) (sc := defScope s_law_glued) (by decide +kernel)) rfl (by decide) (fun _ _ _ _ _ => (dg_name (i := 15) sc.nd rfl (by first | exact .inl rfl | exact .inr rfl))) (fun _ _ _ _ _ => (dts_one (t_eq hr hK (dp_val (e_ix hr hC (dp_var 8 (pv 8)) (dp_var 15 (pv 15)))) (dp_var 12 (pv 12))))) (fun _ _ _ _ _ => (e_ix hr hC (dp_var 6 (pv 6)) (dp_var 15 (pv 15))))) sc.nd rfl (by first | exact .inl rfl | exact .inr rfl) (by decide))
    (ds_one (ds_set (i := 2) (e_add hK (dp_var 2 (pv 2)) (dp_val (de_lc (own := [("other", 16)]) rfl sc.nd (di_val hC (de_slice hK (dp_var 14 (pv 14)) (do_some de_int) do_none)) (blkOk_by (N := ["box", "system", "pairs", "spot", "order", "deeds", "deed", "many", "name", "one", "two", "row", "here", "there", "alike", "board", "other"]) (sc := defScope s_law_glued) (by decide +kernel)) rfl (by decide) (fun _ _ _ _ _ => (dg_name (i := 16) sc.nd rfl (by first | exact .inl rfl | exact .inr rfl))) (fun _ _ _ _ _ => dts_nil) (fun _ _ _ _ _ => (de_tup (da_cons (e_ix hr hC (dp_var 14 (pv 14)) (dp_val de_int)) (da_cons (de_var 16 (pv 16)) da_nil))))))) sc.nd rfl (by first | exact .inl rfl | exact .inr rfl) (by decide)))))))
    ds_nil)))))
    (ds_seq (ds_set (i := 4) (b_sortSet hK rfl x.m_sorted x.m_set (dps_cons (dp_var 8 (pv 8)) dps_nil)) sc.nd rfl (by first | exact .inl rfl | exact .inr rfl) (by decide))
    (ds_seq (ds_if (t_gt (dp_val (b_len hC x.m_len (dps_cons (dp_var 2 (pv 2)) dps_nil))) (dp_val (e_add hK (dp_val (e_mul hK (dp_var 7 (pv 7)) (dp_val de_int))) (dp_val de_int))))
    (ds_one (ds_ret (de_mv 1 (pv 1))))
    ds_nil)
    (ds_seq (ds_set (i := 5) (de_lst da_nil) sc.nd rfl (by first | exact .inl rfl | exact .inr rfl) (by decide))
    (ds_seq (ds_for (passes_of rfl) rfl (di_val hC (e_ix hr hC (dp_var 1 (pv 1)) (dp_val de_int))) (dg_name (i := 6) sc.nd rfl (by first | exact .inl rfl | exact .inr rfl)) (by decide)
    (ds_seq (ds_set (i := 11) (de_lst da_nil) sc.nd rfl (by first | exact .inl rfl | exact .inr rfl) (by decide))
    (ds_seq (ds_for (passes_of rfl) rfl (di_val hC (de_var 4 (pv 4))) (dg_name (i := 9) sc.nd rfl (by first | exact .inl rfl | exact .inr rfl)) (by decide)
    (ds_one (ds_expr (de_mut gs_app mt_append PySem.F.slot_list_append PySem.F.type_list_append (pv 11) (da_cons (b_index (hu65 hr) hK (dp_var 4 (pv 4)) (dp_val (e_ix hr hC (dp_var 8 (pv 8)) (dp_val (e_ix hr hC (dp_var 6 (pv 6)) (dp_val (b_index (hu65 hr) hK (dp_var 8 (pv 8)) (dp_var 9 (pv 9))))))))) da_nil)))))
    (ds_one (ds_expr (de_mut gs_app mt_append PySem.F.slot_list_append PySem.F.type_list_append (pv 5) (da_cons (b_tuple hK x.m_tuple (dps_cons (dp_var 11 (pv 11)) dps_nil)) da_nil)))))))
    (ds_one (ds_ret (de_tup (da_cons (b_len hC x.m_len (dps_cons (dp_var 4 (pv 4)) dps_nil)) (da_cons (b_tuple hK x.m_tuple (dps_cons (dp_var 5 (pv 5)) dps_nil)) da_nil))))))))))))) : DSs _ c true E _ b_law_glued)
theorem sc_law_system : FnScope ["box", "most", "deeds", "kind", "system", "glued"] ["box", "most"] (defScope s_law_system) := ⟨rfl, rfl, rfl, by decide +kernel, rfl, by decide +kernel, by decide +kernel⟩
theorem bn_law_system : BindsP "_law_system" s_law_system ["box", "most"] := fun _ _ _ _ _ _ us h => match us, h with | [_, _], _ => rfl
def b_law_system : SF :=
    (sSeq (sSet 2 (op2 dAdd (.val (fC (.int 1))) (.val (opN dMax2 [(.val (fCallIO d_law_take 0 [(.val (fC (.int 4)))])), (.val (fCallIO d_law_take 0 [(.val (fC (.int 4)))]))]))))
    (sSeq (sSet 3 (fCallIO d_law_take 0 [(.val (fC (.int 5)))]))
    (sSeq (sIf (tOp2 dLt (.var 3) (.val (fC (.int 2))))
    (sSet 4 (fCallIO d_law_settings 0 [(.var 2)]))
    (sIf (tOp2 dEq (.var 3) (.val (fC (.int 2))))
    (sSet 4 (fCallIO d_law_fronts 0 [(.val (op2 dSub (.val (fIf (tOp2 dLt (.var 1) (.val (fC (.int 24)))) (fC (.int 3)) (fC (.int 4)))) (.val (fCallIO d_law_take 0 [(.val (fC (.int 2)))])))), (.var 2)]))
    (sSet 4 (fCallIO d_law_few 0 [(.val (opN dMin2 [(.val (fC (.int 3))), (.var 2)]))]))))
    (sSeq (sIf (tOr' (tOp2 dEq (.var 3) (.val (fC (.int 4)))) (tOp2 dEq (.val (fCallIO d_law_take 0 [(.val (fC (.int 4)))])) (.val (fC (.int 0)))))
    (sSeq (sSet 5 (fCallIO d_law_glued 0 [(.var 4)]))
    (sSet 4 (fIf (tOf (.val (fCall d_law_is_plain [(.var 5)]))) (fVar 5) (fVar 4))))
    sNil)
    (sSeq (sIf (tOp2 dGt (.val (op2 dIx (.var 4) (.val (fC (.int 0))))) (.var 1))
    (sSet 4 (fCallIO d_law_few 0 [(.val (opN dMin2 [(.val (fC (.int 3))), (.var 2)]))]))
    sNil)
    (sRet (fIf (tOp2 dLe (.val (op2 dIx (.var 4) (.val (fC (.int 0))))) (.var 1)) (fVar 4) (fTup [(fC (.int 2)), (fTup [(fTup [(fC (.int 0)), (fC (.int 0))]), (fTup [(fC (.int 1)), (fC (.int 1))])])]))))))))
def d_law_system : FD := runF 2 6 true b_law_system
theorem ok_law_system (x : Fx K mg) (hC : K = c.K ∧ c.P = P ∧ c.w = w) : Okd P w K mg base CX0 c "_law_system" s_law_system ["box", "most"] 5 true d_law_system := by
    have hK := hC.1
    have sc := sc_law_system
    exact okd_of (k := 4) x.n_law_system sc (by decide) bn_law_system fun f cdv A outer s H E hr => ((ds_seq (ds_set (i := 2) (e_add hK (dp_val de_int) (dp_val (b_max2 rfl x.m_max (dps_cons (dp_val (e_callIO (ok_law_take x hC) hr (by omega) uPass (pv 0) (dps_cons (dp_val de_int) dps_nil))) (dps_cons (dp_val (e_callIO (ok_law_take x hC) hr (by omega) uPass (pv 0) (dps_cons (dp_val de_int) dps_nil))) dps_nil))))) sc.nd rfl (by first | exact .inl rfl | exact .inr rfl) (by decide))
    (ds_seq (ds_set (i := 3) (e_callIO (ok_law_take x hC) hr (by omega) uPass (pv 0) (dps_cons (dp_val de_int) dps_nil)) sc.nd rfl (by first | exact .inl rfl | exact .inr rfl) (by decide))
    (ds_seq (ds_if (t_lt (dp_var 3 (pv 3)) (dp_val de_int))
    (ds_one (ds_set (i := 4) (e_callIO (ok_law_settings x hC) hr (by omega) uPass (pv 0) (dps_cons (dp_var 2 (pv 2)) dps_nil)) sc.nd rfl (by first | exact .inl rfl | exact .inr rfl) (by decide)))
    (ds_one (ds_if (t_eq hr hK (dp_var 3 (pv 3)) (dp_val de_int))
    (ds_one (ds_set (i := 4) (e_callIO (ok_law_fronts x hC) hr (by omega) uPass (pv 0) (dps_cons (dp_val (e_sub (dp_val (de_if (t_lt (dp_var 1 (pv 1)) (dp_val de_int)) de_int de_int)) (dp_val (e_callIO (ok_law_take x hC) hr (by omega) uPass (pv 0) (dps_cons (dp_val de_int) dps_nil))))) (dps_cons (dp_var 2 (pv 2)) dps_nil))) sc.nd rfl (by first | exact .inl rfl | exact .inr rfl) (by decide)))
    (ds_one (ds_set (i := 4) (e_callIO (ok_law_few x hC) hr (by omega) uPass (pv 0) (dps_cons (dp_val (b_min2 rfl x.m_min (dps_cons (dp_val de_int) (dps_cons (dp_var 2 (pv 2)) dps_nil)))) dps_nil)) sc.nd rfl (by first | exact .inl rfl | exact .inr rfl) (by decide))))))
    (ds_seq (ds_if (dt_bool (dw_or (t_eq hr hK (dp_var 3 (pv 3)) (dp_val de_int)) (dw_or1 (t_eq hr hK (dp_val (e_callIO (ok_law_take x hC) hr (by omega) uPass (pv 0) (dps_cons (dp_val de_int) dps_nil))) (dp_val de_int)))))
    (ds_seq (ds_set (i := 5) (e_callIO (ok_law_glued x hC) hr (by omega) uPass (pv 0) (dps_cons (dp_var 4 (pv 4)) dps_nil)) sc.nd rfl (by first | exact .inl rfl | exact .inr rfl) (by decide))
    (ds_one (ds_set (i := 4) (de_if (dt_of (dp_val (e_call (ok_law_is_plain x hC) hr (by omega) uPass (dps_cons (dp_var 5 (pv 5)) dps_nil)))) (de_var 5 (pv 5)) (de_var 4 (pv 4))) sc.nd rfl (by first | exact .inl rfl | exact .inr rfl) (by decide))))
    ds_nil)
    (ds_seq (ds_if (t_gt (dp_val (e_ix hr hC (dp_var 4 (pv 4)) (dp_val de_int))) (dp_var 1 (pv 1)))
    (ds_one (ds_set (i := 4) (e_callIO (ok_law_few x hC) hr (by omega) uPass (pv 0) (dps_cons (dp_val (b_min2 rfl x.m_min (dps_cons (dp_val de_int) (dps_cons (dp_var 2 (pv 2)) dps_nil)))) dps_nil)) sc.nd rfl (by first | exact .inl rfl | exact .inr rfl) (by decide)))
    ds_nil)
    (ds_one (ds_ret (de_if (t_le (dp_val (e_ix hr hC (dp_var 4 (pv 4)) (dp_val de_int))) (dp_var 1 (pv 1))) (de_var 4 (pv 4)) (de_tup (da_cons de_int (da_cons (de_tup (da_cons (de_tup (da_cons de_int (da_cons de_int da_nil))) (da_cons (de_tup (da_cons de_int (da_cons de_int da_nil))) da_nil))) da_nil))))))))))) : DSs _ c true E _ b_law_system)
theorem sc_law : FnScope ["script", "k", "box", "system", "count", "turn", "ways", "run", "one", "told", "due", "other", "row", "step"] ["script"] (defScope s_law) := ⟨rfl, rfl, rfl, by decide +kernel, rfl, by decide +kernel, by decide +kernel⟩
theorem bn_law : BindsP "law" s_law ["script"] := fun _ _ _ _ _ _ us h => match us, h with | [_], _ => rfl
def b_law_1 : SF :=
    (sIf (tAn (tOp2 dIsN (.var 10) (.val (fC .non))) (tOp2 dNe (.val (op2 dIx (.var 9) (.var 8))) (.val (op2 dIx (.var 9) (.var 11)))))
    (sSet 10 (fTup [(fVar 8), (fVar 11)]))
    sNil)
def b_law_2 : SF :=
    (sFor (fRg rg2 [(.val (op2 dAdd (.var 8) (.val (fC (.int 1))))), (.val (op2 dIx (.var 3) (.val (fC (.int 0)))))]) (gN 11)
    b_law_1)
def b_law_3 : SF :=
    (sIf (tOr' (tNo (tOf (.val (fCall (d_law_same 40) [(.val (fCall (fun ds => d_forgets (pmW 2 [0, 1] ds)) [(.var 3), (.var 7)])), (.var 10)])))) (tOp2 dNe (.val (op2 (blO dEq) (.val (fCall d_fixed_many [(.var 3), (.val (opN dTuple [(.val (opN dSortSet [(.var 7)]))]))])) (.val (fC (.int 1))))) (.val (op2 (blO dIsN) (.var 10) (.val (fC .non))))))
    (sRet (fC (.bl false)))
    sNil)
def b_law_4 : SF :=
    (sSeq (sFor (fRg rg1 [(.val (op2 dIx (.var 3) (.val (fC (.int 0)))))]) (gN 8)
    b_law_2)
    b_law_3)
def b_law_5 : SF :=
    (sSeq (sSet 7 (opN dTuple [(.val (fLc [13] (fRg rg1 [(.val (fCallIO d_law_take 2 [(.val (fC (.int 7)))]))]) (gN 13) (tAll []) (fCallIO d_law_take 2 [(.var 4)])))]))
    (sSeq (sPar [(9, (fCall d_law_map [(.var 3), (.var 7)])), (10, (fC .non))])
    b_law_4))
def b_law_6 : SF :=
    (sIf (tOp2 dNe (.val (op2 (blO dEq) (.var 6) (.val (fLst [])))) (.val (op2 (blO dGt) (.val (opN dLenSet [(.val (fCall d_law_map [(.var 3), (.val (op1 dTupRg (.var 4)))]))])) (.val (fC (.int 1))))))
    (sRet (fC (.bl false)))
    sNil)
def b_law_7 : SF :=
    (sSeq (sIf (tNo (tOf (.val (fCall (d_law_same 40) [(.val (fCall (fun ds => d_forgetting_run (pmW 1 [0] ds)) [(.var 3)])), (.val (fIf (tOp2 dNe (.var 6) (.val (fLst []))) (op2 dIx (.var 6) (.val (fC (.int 0)))) (fC .non)))]))))
    (sRet (fC (.bl false)))
    sNil)
    b_law_6)
def b_law_8 : SF :=
    (sSeq (sSet 6 (fLc [12] (fIt (fCall d_law_rows [(.var 4), (.var 4)])) (gN 12) (tOp2 dEq (.val (opN dLenSet [(.val (fCall d_law_map [(.var 3), (.var 12)]))])) (.val (fC (.int 1)))) (fVar 12)))
    b_law_7)
def b_law_9 : SF :=
    (sSeq (sSet 4 (opN dLen [(.val (op2 dIx (.var 3) (.val (fC (.int 1)))))]))
    (sSeq (sFor (fRg rg1 [(.val (fC (.int 4)))]) (gN 5)
    b_law_5)
    b_law_8))
def b_law_10 : SF :=
    (sSeq (sSet 2 (fCall d_law_box [(.var 0), (.var 1)]))
    (sSeq (sSet 3 (fCallIO d_law_system 2 [(.val (fC (.int 24)))]))
    b_law_9))
def b_law_11 : SF :=
    (sSeq (sFor (fRg rg1 [(.val (opN dMax2 [(.val (fC (.int 3))), (.val (opN dMin2 [(.val (opN dLen [(.var 0)])), (.val (fC (.int 8)))]))]))]) (gN 1)
    b_law_10)
    (sRet (fC (.bl true))))
def b_law : SF :=
    b_law_11
def d_law : FD := runF 1 14 false b_law
theorem ok_law (x : Fx K mg) (hC : K = c.K ∧ c.P = P ∧ c.w = w) : Okd P w K mg base CX0 c "law" s_law ["script"] 42 false d_law := by
    have hK := hC.1
    have sc := sc_law
    exact okd_of (k := 41) x.n_law sc (by decide) bn_law fun f cdv A outer s H E hr => ((ds_seq (ds_for (passes_of rfl) rfl (di_rg1 (dps_cons (dp_val (b_max2 rfl x.m_max (dps_cons (dp_val de_int) (dps_cons (dp_val (b_min2 rfl x.m_min (dps_cons (dp_val (b_len hC x.m_len (dps_cons (dp_var 0 (pv 0)) dps_nil))) (dps_cons (dp_val de_int) dps_nil)))) dps_nil)))) dps_nil) (by rfl) x.m_range) (dg_name (i := 1) sc.nd rfl (by first | exact .inl rfl | exact .inr rfl)) (by decide)
    (ds_seq (ds_set (i := 2) (e_call (ok_law_box x hC) hr (by omega) uPass (dps_cons (dp_var 0 (pv 0)) (dps_cons (dp_var 1 (pv 1)) dps_nil))) sc.nd rfl (by first | exact .inl rfl | exact .inr rfl) (by decide))
    (ds_seq (ds_set (i := 3) (e_callIO (ok_law_system x hC) hr (by omega) uPass (pv 2) (dps_cons (dp_val de_int) dps_nil)) sc.nd rfl (by first | exact .inl rfl | exact .inr rfl) (by decide))
    (ds_seq (ds_set (i := 4) (b_len hC x.m_len (dps_cons (dp_val (e_ix hr hC (dp_var 3 (pv 3)) (dp_val de_int))) dps_nil)) sc.nd rfl (by first | exact .inl rfl | exact .inr rfl) (by decide))
    (ds_seq (ds_for (passes_of rfl) rfl (di_rg1 (dps_cons (dp_val de_int) dps_nil) (by rfl) x.m_range) (dg_name (i := 5) sc.nd rfl (by first | exact .inl rfl | exact .inr rfl)) (by decide)
    (ds_seq (ds_set (i := 7) (b_tuple hK x.m_tuple (dps_cons (dp_val (de_lc (own := [("step", 13)]) rfl sc.nd (di_rg1 (dps_cons (dp_val (e_callIO (ok_law_take x hC) hr (by omega) uPass (pv 2) (dps_cons (dp_val de_int) dps_nil))) dps_nil) (by rfl) x.m_range) (blkOk_by (N := ["script", "k", "box", "system", "count", "turn", "ways", "run", "one", "told", "due", "other", "row", "step"]) (sc := defScope s_law) (by decide +kernel)) rfl (by decide) (fun _ _ _ _ _ => (dg_name (i := 13) sc.nd rfl (by first | exact .inl rfl | exact .inr rfl))) (fun _ _ _ _ _ => dts_nil) (fun _ _ _ _ _ => (e_callIO (ok_law_take x hC) hr (by omega) uPass (pv 2) (dps_cons (dp_var 4 (pv 4)) dps_nil))))) dps_nil)) sc.nd rfl (by first | exact .inl rfl | exact .inr rfl) (by decide))
    (ds_seq (ds_par2 (i := 9) (j := 10) rfl sc.nd rfl rfl (by decide) rfl rfl (e_call (ok_law_map x hC) hr (by omega) uPass (dps_cons (dp_var 3 (pv 3)) (dps_cons (dp_var 7 (pv 7)) dps_nil))) de_non (by decide) (by rfl))
    (ds_seq (ds_for (passes_of rfl) rfl (di_rg1 (dps_cons (dp_val (e_ix hr hC (dp_var 3 (pv 3)) (dp_val de_int))) dps_nil) (by rfl) x.m_range) (dg_name (i := 8) sc.nd rfl (by first | exact .inl rfl | exact .inr rfl)) (by decide)
    (ds_one (ds_for (passes_of rfl) rfl (di_rg2 (dps_cons (dp_val (e_add hK (dp_var 8 (pv 8)) (dp_val de_int))) (dps_cons (dp_val (e_ix hr hC (dp_var 3 (pv 3)) (dp_val de_int))) dps_nil)) (by rfl) x.m_range) (dg_name (i := 11) sc.nd rfl (by first | exact .inl rfl | exact .inr rfl)) (by decide)
    (ds_one (ds_if (dt_bool (dw_and (t_isN (dp_var 10 (pv 10)) (dp_val de_non)) (dw_and1 (t_ne hr hK (dp_val (e_ix hr hC (dp_var 9 (pv 9)) (dp_var 8 (pv 8)))) (dp_val (e_ix hr hC (dp_var 9 (pv 9)) (dp_var 11 (pv 11))))))))
    (ds_one (ds_set (i := 10) (de_tup (da_cons (de_var 8 (pv 8)) (da_cons (de_var 11 (pv 11)) da_nil))) sc.nd rfl (by first | exact .inl rfl | exact .inr rfl) (by decide)))
    ds_nil)))))
    (ds_one (ds_if (dt_bool (dw_or (dt_not (dt_of (dp_val (e_call (ok_law_same x hC 40) hr (by omega) uPass (dps_cons (dp_val (e_callK0 2 [0, 1] (ok_forgets x hC) kw_forgets_0_system_run (by decide) hr (by omega) uPass (dk_cons (dp_var 3 (pv 3)) (dk_cons (dp_var 7 (pv 7)) dk_nil)))) (dps_cons (dp_var 10 (pv 10)) dps_nil)))))) (dw_or1 (t_ne hr hK (dp_val (c_eq hr hK (dp_val (e_call (ok_fixed_many x hC) hr (by omega) uPass (dps_cons (dp_var 3 (pv 3)) (dps_cons (dp_val (b_tuple hK x.m_tuple (dps_cons (dp_val (b_sortSet hK rfl x.m_sorted x.m_set (dps_cons (dp_var 7 (pv 7)) dps_nil))) dps_nil))) dps_nil)))) (dp_val de_int))) (dp_val (c_isN (dp_var 10 (pv 10)) (dp_val de_non)))))))
    (ds_one (ds_ret de_bl))
    ds_nil))))))
    (ds_seq (ds_setLc (i := 6) (own := [("row", 12)]) rfl sc.nd rfl rfl (by decide) (sw_true rfl rfl rfl (by decide +kernel)) (di_val hC (e_call (ok_law_rows x hC) hr (by omega) uPass (dps_cons (dp_var 4 (pv 4)) (dps_cons (dp_var 4 (pv 4)) dps_nil)))) (blkOk_by (N := ["script", "k", "box", "system", "count", "turn", "ways", "run", "one", "told", "due", "other", "row", "step"]) (sc := defScope s_law) (by decide +kernel)) rfl (by decide) (fun _ _ _ _ _ => (dg_name (i := 12) sc.nd rfl (by first | exact .inl rfl | exact .inr rfl))) (fun _ _ _ _ _ => (dts_one (t_eq hr hK (dp_val (b_lenSet hK rfl x.m_len x.m_set (dps_cons (dp_val (e_call (ok_law_map x hC) hr (by omega) uPass (dps_cons (dp_var 3 (pv 3)) (dps_cons (dp_var 12 (pv 12)) dps_nil)))) dps_nil))) (dp_val de_int)))) (fun _ _ _ _ _ => (de_var 12 (pv 12))))
    (ds_seq (ds_if (dt_not (dt_of (dp_val (e_call (ok_law_same x hC 40) hr (by omega) uPass (dps_cons (dp_val (e_callK0 1 [0] (ok_forgetting_run x hC) kw_forgetting_run_0_system (by decide) hr (by omega) uPass (dk_cons (dp_var 3 (pv 3)) dk_nil))) (dps_cons (dp_val (de_if (t_ne hr hK (dp_var 6 (pv 6)) (dp_val (de_lst da_nil))) (e_ix hr hC (dp_var 6 (pv 6)) (dp_val de_int)) de_non)) dps_nil))))))
    (ds_one (ds_ret de_bl))
    ds_nil)
    (ds_one (ds_if (t_ne hr hK (dp_val (c_eq hr hK (dp_var 6 (pv 6)) (dp_val (de_lst da_nil)))) (dp_val (c_gt (dp_val (b_lenSet hK rfl x.m_len x.m_set (dps_cons (dp_val (e_call (ok_law_map x hC) hr (by omega) uPass (dps_cons (dp_var 3 (pv 3)) (dps_cons (dp_val (b_tupRg rfl x.m_tuple x.m_range (dp_var 4 (pv 4)))) dps_nil)))) dps_nil))) (dp_val de_int))))
    (ds_one (ds_ret de_bl))
    ds_nil)))))))))
    (ds_one (ds_ret de_bl))) : DSs _ c false E _ b_law)
end
end G_k17_whole_forgotten_exactly
namespace G_k17_whole_forgotten_exactly
open PySem PySem.Spec PyProof.Rows L2 U
theorem q_box : d_law_box = lawBox := rfl
theorem q_take : d_law_take = lawTake := rfl
theorem q_map : d_law_map = fLawMap := rfl
theorem q_sys : d_law_system = H.d_law_system := rfl
theorem q_rows : d_law_rows = H.d_law_rows := rfl
theorem q_fg : d_forgets = H.d_forgets := rfl
theorem q_fgr : d_forgetting_run = H.d_forgetting_run := rfl
theorem q_fm : d_fixed_many = H.d_fixed_many := rfl
theorem q_same : d_law_same 40 = lawSame 40 := by
  have : ∀ n, d_law_same n = lawSame n := by
    intro n
    induction n with
    | zero => rfl
    | succ n ih => unfold d_law_same lawSame; rw [ih]; rfl
  exact this 40
abbrev S (ns : List Int) (a1 : Option (Bool × D)) (es : List D) (many : Int) (rows : List (List Int)) (a4 a5 a6 a7 a8 a9 a10 a11 : Option (Bool × D)) : En :=
  [some (false, .scr ns), a1, some (true, .lst es), some (false, sysD many rows), a4, a5, a6, a7, a8, a9, a10, a11, none, none]
section
variable (ns : List Int) (a1 : Option (Bool × D)) {es : List D} {many : Int} {rows : List (List Int)} (a5 a6 a7 a8 a9 a10 a11 : Option (Bool × D))
theorem draws_ok (hb : BxI es) (hr : rows.length ≤ 1000) (hr1 : 1 ≤ rows.length) {fi : IF} {ρ : En} {n : Nat} (hn : n ≤ 1000) (hfi : fi ρ = .ok ((ups n).map .int, S ns a1 es many rows (some (false, .int rows.length)) a5 a6 a7 a8 a9 a10 a11)) : ∃ (run : List Int) (es' : List D),
    fLc [13] fi (gN 13) (tAll []) (fCallIO d_law_take 2 [(.var 4)]) ρ =
      .ok (true, .lst (run.map .int), S ns a1 es' many rows (some (false, .int rows.length)) a5 a6 a7 a8 a9 a10 a11) ∧ RunOk rows run ∧ run.length = n ∧ BxI es' := by
  obtain ⟨l, es2, e2, hl2, hp2, hb2⟩ := fLc_box (vs := [13]) (fi := fi) (t := gN 13) (f := fCallIO d_law_take 2 [(.var 4)]) (ib := 2) (fun x => ∃ v : Int, x = .int v ∧ 0 ≤ v ∧ v < rows.length) (by decide) hfi
    rfl (by rw [List.length_map, ups_len]; omega) rfl hb fun d hd es' hb' => by
      obtain ⟨b, _, rfl⟩ := List.mem_map.mp hd
      obtain ⟨v, es3, e3, v0, v1, hb3, hi3⟩ := take_ok hb'.1 (many := rows.length) (by omega) (by omega)
      refine ⟨_, false, .int v, S ns a1 es3 many rows (some (false, .int rows.length)) a5 a6 a7 a8 a9 a10 a11 |>.set 13 (some (false, .int b)), es3, rfl, ?_, ⟨v, rfl, v0, v1⟩, ⟨hb3, hi3⟩, rfl⟩
      generalize (rows.length : Int) = nn at e3
      simp [wipeE, q_take, e3, hi3]
  obtain ⟨run, rfl, hrun⟩ := U.ints_of hp2
  rw [List.length_map, List.length_map, ups_len] at hl2
  exact ⟨run, es2, e2, hrun, hl2, hb2⟩
theorem due_in {m : List Int} {one : Int} (h0 : 0 ≤ one) (h1 : one < m.length) (a4 : Option (Bool × D)) : ∀ (l : List Int) (o : Option (Int × Int)) (a11 : Option (Bool × D)), (∀ z ∈ l, 0 ≤ z ∧ z < m.length) →
    ∃ a11', forL (gN 11) b_law_1 (l.map .int) (S ns a1 es many rows a4 a5 a6 a7 (some (false, .int one)) (some (false, iT m)) (some (false, H.prA o)) a11) =
      .ok (.nx, S ns a1 es many rows a4 a5 a6 a7 (some (false, .int one)) (some (false, iT m)) (some (false, H.prA (o.or ((H.inA m one l).map fun z => (one, z))))) a11')
  | [], o, a11, _ => ⟨a11, by cases o <;> rfl⟩
  | z :: l, o, a11, h => by
    have hz := h z List.mem_cons_self
    have e1 := v_ixI h0 h1
    have e2 := v_ixI hz.1 hz.2
    have hn := H.dIsN_prA o
    have ih := fun o' => due_in h0 h1 a4 l o' (some (false, .int z)) fun y hy => h y (List.mem_cons_of_mem _ hy)
    rw [List.map_cons]
    unfold forL
    show ∃ a11', (b_law_1 (S ns a1 es many rows a4 a5 a6 a7 (some (false, .int one)) (some (false, iT m)) (some (false, H.prA o)) (some (false, .int z)))).bind _ = _
    have hdne : ∀ x y : Int, dNe (.int x) (.int y) = some (!decide (x = y)) := fun x y => by
      have : dNe (.int x) (.int y) = some (!(x == y)) := rfl
      rw [this]
      by_cases q : x = y
      · simp [q]
      · simp [q, beq_eq_false_iff_ne.mpr q]
    have hne := hdne (m.getD one.toNat 0) (m.getD z.toNat 0)
    have hinc : H.inA m one (z :: l) = if (!decide (m.getD one.toNat 0 = m.getD z.toNat 0)) = true then some z else H.inA m one l := by
      unfold H.inA
      rw [List.find?_cons]
      cases !decide (m.getD one.toNat 0 = m.getD z.toNat 0) <;> rfl
    rw [hinc]
    cases o with
    | some p =>
      obtain ⟨a11', e⟩ := ih (some p)
      refine ⟨a11', ?_⟩
      have e0 : b_law_1 (S ns a1 es many rows a4 a5 a6 a7 (some (false, .int one)) (some (false, iT m)) (some (false, H.prA (some p))) (some (false, .int z))) = .ok (.nx, S ns a1 es many rows a4 a5 a6 a7 (some (false, .int one)) (some (false, iT m)) (some (false, H.prA (some p))) (some (false, .int z))) := by
        have hn : dIsN (H.prA (some p)) .non = some false := hn
        unfold b_law_1
        generalize H.prA (some p) = P at hn ⊢
        simp [hn]
      rw [e0, O.bind_ok]
      exact e
    | none =>
      have hn : dIsN .non .non = some true := hn
      show ∃ a11', (b_law_1 (S ns a1 es many rows a4 a5 a6 a7 (some (false, .int one)) (some (false, iT m)) (some (false, .non)) (some (false, .int z)))).bind _ = _
      cases hq : !decide (m.getD one.toNat 0 = m.getD z.toNat 0) with
      | true =>
        rw [hq] at hne
        obtain ⟨a11', e⟩ := ih (some (one, z))
        refine ⟨a11', ?_⟩
        have e0 : b_law_1 (S ns a1 es many rows a4 a5 a6 a7 (some (false, .int one)) (some (false, iT m)) (some (false, .non)) (some (false, .int z))) = .ok (.nx, S ns a1 es many rows a4 a5 a6 a7 (some (false, .int one)) (some (false, iT m)) (some (false, H.prA (some (one, z)))) (some (false, .int z))) := by
          unfold b_law_1 H.prA
          generalize m.getD one.toNat 0 = x at e1 hne
          generalize m.getD z.toNat 0 = y at e2 hne
          generalize iT m = M at e1 e2 ⊢
          simp [hn, e1, e2, hne]
        rw [e0, O.bind_ok]
        exact e
      | false =>
        rw [hq] at hne
        obtain ⟨a11', e⟩ := ih none
        refine ⟨a11', ?_⟩
        have e0 : b_law_1 (S ns a1 es many rows a4 a5 a6 a7 (some (false, .int one)) (some (false, iT m)) (some (false, .non)) (some (false, .int z))) = .ok (.nx, S ns a1 es many rows a4 a5 a6 a7 (some (false, .int one)) (some (false, iT m)) (some (false, .non)) (some (false, .int z))) := by
          unfold b_law_1
          generalize m.getD one.toNat 0 = x at e1 hne
          generalize m.getD z.toNat 0 = y at e2 hne
          generalize iT m = M at e1 e2 ⊢
          simp [hn, e1, e2, hne]
        rw [e0, O.bind_ok]
        exact e
theorem due_out (Sy : SysOk many rows) {m : List Int} (hm : (m.length : Int) = many) (a4 : Option (Bool × D)) : ∀ (l : List Int) (o : Option (Int × Int)) (a8 a11 : Option (Bool × D)), (∀ z ∈ l, 0 ≤ z ∧ z < many) →
    ∃ a8' a11', forL (gN 8) b_law_2 (l.map .int) (S ns a1 es many rows a4 a5 a6 a7 a8 (some (false, iT m)) (some (false, H.prA o)) a11) =
      .ok (.nx, S ns a1 es many rows a4 a5 a6 a7 a8' (some (false, iT m)) (some (false, H.prA (o.or (H.outA m many l)))) a11')
  | [], o, a8, a11, _ => ⟨a8, a11, by cases o <;> rfl⟩
  | one :: l, o, a8, a11, h => by
    have ho := h one List.mem_cons_self
    have hhi := Sy.hi
    obtain ⟨b11, e1⟩ := due_in (es := es) (many := many) (rows := rows) ns a1 a5 a6 a7 ho.1 (by omega : one < m.length) a4 (H.rgI (one + 1) (many - (one + 1)).toNat) o a11 fun z hz => by
      have := H.rgI_mem.mp hz
      omega
    have hrg := H.rg2_ok (a := one + 1) (b := many) (by omega) (by omega)
    obtain ⟨c8, c11, e2⟩ := due_out Sy hm a4 l (o.or ((H.inA m one (H.rgI (one + 1) (many - (one + 1)).toNat)).map fun z => (one, z))) (some (false, .int one)) b11 fun z hz => h z (List.mem_cons_of_mem _ hz)
    have hor : (o.or ((H.inA m one (H.rgI (one + 1) (many - (one + 1)).toNat)).map fun z => (one, z))).or (H.outA m many l) = o.or (H.outA m many (one :: l)) := by
      unfold H.outA
      rw [List.findSome?_cons, Option.or_assoc]
      congr 1
      cases (H.inA m one (H.rgI (one + 1) (many - (one + 1)).toNat)) <;> rfl
    rw [hor] at e2
    refine ⟨c8, c11, ?_⟩
    have hfi : fRg rg2 [(.val (op2 dAdd (.var 8) (.val (fC (.int 1))))), (.val (op2 dIx (.var 3) (.val (fC (.int 0)))))] (S ns a1 es many rows a4 a5 a6 a7 (some (false, .int one)) (some (false, iT m)) (some (false, H.prA o)) a11) = .ok ((H.rgI (one + 1) (many - (one + 1)).toNat).map .int, S ns a1 es many rows a4 a5 a6 a7 (some (false, .int one)) (some (false, iT m)) (some (false, H.prA o)) a11) := by
      have ha : dAdd (.int one) (.int 1) = some (false, .int (one + 1)) := rfl
      generalize (H.rgI (one + 1) (many - (one + 1)).toNat).map D.int = RR at hrg ⊢
      generalize one + 1 = w at ha hrg
      simp [ha, hrg]
    rw [List.map_cons]
    unfold forL
    show (b_law_2 (S ns a1 es many rows a4 a5 a6 a7 (some (false, .int one)) (some (false, iT m)) (some (false, H.prA o)) a11)).bind _ = _
    unfold b_law_2
    rw [r_for, hfi, O.bind_ok, e1, O.bind_ok]
    exact e2
variable (Sy : SysOk many rows) (L : H.OnlyLast many rows) (hr6 : rows.length ≤ 6) (hr1 : 1 ≤ rows.length)
include Sy L hr6 hr1
theorem turn_ok (hb : BxI es) : (b_law_5 (S ns a1 es many rows (some (false, .int rows.length)) a5 a6 a7 a8 a9 a10 a11)).wp fun r => r.1 = .nx ∧ ∃ es' a7 a8 a9 a10 a11, BxI es' ∧ r.2 = S ns a1 es' many rows (some (false, .int rows.length)) a5 a6 a7 a8 a9 a10 a11 := by
  obtain ⟨t, es1, t1, t0, t2, hb1, hi1⟩ := take_ok hb.1 (many := 7) (by decide) (by decide)
  obtain ⟨run, es2, e2, hr, hrl, hb2⟩ := draws_ok ns a1 a5 a6 a7 a8 a9 a10 a11 (es := es1) (many := many) ⟨hb1, hi1⟩ (by omega : rows.length ≤ 1000) hr1 (fi := fRg rg1 [(.val (fCallIO d_law_take 2 [(.val (fC (.int 7)))]))]) (ρ := S ns a1 es many rows (some (false, .int rows.length)) a5 a6 a7 a8 a9 a10 a11) (n := t.toNat) (by omega)
    (by simp [q_take, t1, hi1, rg1_ok t0 (by omega : t < 2 ^ 62)])
  unfold b_law_5
  refine seq_set (fr := false) (d := iT run) (ρ' := S ns a1 es2 many rows (some (false, .int rows.length)) a5 a6 a7 a8 a9 a10 a11) (by rw [r_opN, r_evs1, r_pv, e2]; rfl) ?_
  generalize some (false, D.int (rows.length : Int)) = a4
  have hm := lawMap_ok Sy hr
  have hml : ((U.mapOf many rows run).length : Int) = many := by rw [U.mapOf_len]; have := Sy.lo; omega
  have hfg := H.forgets_ok Sy hr
  have hss := H.sortset_ok (run := run) (by omega)
  have hfm := H.fixedMany_ok Sy (run := sortI (nubI run)) fun z hz => hr z ((H.sort_mem run z).mp hz)
  have hfx : ((H.fixB many rows (sortI (nubI run))).length = 1) ↔ (H.apF (U.mapOf many rows run) many).isNone = true := by
    rw [H.fix_set Sy L hr, H.cst_fix Sy L hr, H.cst_ap Sy]
  obtain ⟨c8, c11, e3⟩ := due_out ns a1 (es := es2) a5 a6 (some (false, iT run)) Sy hml a4 (ups many.toNat) none a8 a11 fun z hz => by
    have := ups_mem hz
    have := Sy.lo
    omega
  have ha : (none : Option (Int × Int)).or (H.outA (U.mapOf many rows run) many (ups many.toNat)) = H.apF (U.mapOf many rows run) many := rfl
  rw [ha] at e3
  have hsm : lawSame 40 [H.prA (H.apF (U.mapOf many rows run) many), H.prA (H.apF (U.mapOf many rows run) many)] = .ok (false, .bl true, []) := by
    cases H.apF (U.mapOf many rows run) many with
    | none => exact same_ok 39 _ rfl
    | some p =>
      exact same_ok 39 _ (pl_tup 38 _ fun d hd => by
        simp only [List.mem_cons, List.not_mem_nil, or_false] at hd
        rcases hd with rfl | rfl <;> exact pl_int _ _)
  have hn := H.dIsN_prA (H.apF (U.mapOf many rows run) many)
  have himm : (H.prA (H.apF (U.mapOf many rows run) many)).imm = true := by
    cases H.apF (U.mapOf many rows run) many with
    | none => rfl
    | some p => rfl
  have hlo := Sy.lo
  have hhi := Sy.hi
  have hg := rg1_ok (j := many) (by omega) (by omega)
  generalize hap : H.apF (U.mapOf many rows run) many = ap at hfg hfx e3 hsm hn himm
  generalize U.mapOf many rows run = m at hm hml e3
  have e4 : sPar [(9, (fCall d_law_map [(.var 3), (.var 7)])), (10, (fC .non))] (S ns a1 es2 many rows a4 a5 a6 (some (false, iT run)) a8 a9 a10 a11) = .ok (.nx, S ns a1 es2 many rows a4 a5 a6 (some (false, iT run)) a8 (some (false, iT m)) (some (false, H.prA none)) a11) := by
    have e : parF [(9, (fCall d_law_map [(.var 3), (.var 7)])), (10, (fC .non))] (S ns a1 es2 many rows a4 a5 a6 (some (false, iT run)) a8 a9 a10 a11) = .ok (S ns a1 es2 many rows a4 a5 a6 (some (false, iT run)) a8 (some (false, iT m)) (some (false, H.prA none)) a11) := by
      simp [q_map, hm, parF, H.prA]
    rw [r_par, e]
    rfl
  refine seq_nx e4 ?_
  unfold b_law_4
  refine seq_nx (ρ' := S ns a1 es2 many rows a4 a5 a6 (some (false, iT run)) c8 (some (false, iT m)) (some (false, H.prA ap)) c11) ?_ ?_
  · have e1 : fRg rg1 [(.val (op2 dIx (.var 3) (.val (fC (.int 0)))))] (S ns a1 es2 many rows a4 a5 a6 (some (false, iT run)) a8 (some (false, iT m)) (some (false, H.prA none)) a11) = .ok ((ups many.toNat).map .int, S ns a1 es2 many rows a4 a5 a6 (some (false, iT run)) a8 (some (false, iT m)) (some (false, H.prA none)) a11) := by
      generalize H.prA none = P
      simp [hg]
    rw [r_for, e1, O.bind_ok]
    exact e3
  · refine O.wp_of (a := (.nx, S ns a1 es2 many rows a4 a5 a6 (some (false, iT run)) c8 (some (false, iT m)) (some (false, H.prA ap)) c11)) ?_ ⟨rfl, es2, _, _, _, _, _, hb2, rfl⟩
    have he1 : dEq (.int ((H.fixB many rows (sortI (nubI run))).length : Int)) (.int 1) = some ap.isNone := by
      have : dEq (.int ((H.fixB many rows (sortI (nubI run))).length : Int)) (.int 1) = some (((H.fixB many rows (sortI (nubI run))).length : Int) == 1) := rfl
      rw [this]
      congr 1
      rw [Bool.eq_iff_iff, ← hfx, beq_iff_eq]
      omega
    have hbb : dNe (.bl ap.isNone) (.bl ap.isNone) = some false := by cases ap.isNone <;> rfl
    have htp : dTuple [.lst ((sortI (nubI run)).map .int)] = some (false, iT (sortI (nubI run))) := H.tupL_ok _
    unfold b_law_3
    generalize ((H.fixB many rows (sortI (nubI run))).length : Int) = fl at hfm he1
    have him4 := imm_iT run
    generalize iT (sortI (nubI run)) = Ls at hfm htp
    generalize (sortI (nubI run)).map D.int = Lx at hss htp
    generalize H.prA ap = P at *
    generalize iT run = Ru at *
    generalize ap.isNone = qq at *
    simp [q_same, q_fg, hfg, hsm, himm, hss, htp, q_fm, hfm, he1, hn, hbb, blO, pmW, pmx, him4, -v_tupleL]
end
end G_k17_whole_forgotten_exactly
namespace G_k17_whole_forgotten_exactly
open PySem PySem.Spec PyProof.Rows L2 U
theorem lenset_T (l : List Int) (hl : l.length ≤ 1000) : dLenSet [iT l] = some (false, .int ((nubI l).length : Nat)) := by
  unfold dLenSet iT
  dsimp only
  rw [intsD_of]
  dsimp only [Option.bind]
  rw [if_pos hl]
def rowI (d : D) : List Int := match d with
  | .tup ds => (intsD ds).getD []
  | _ => []
theorem rowI_T (r : List Int) : rowI (iT r) = r := by
  unfold rowI iT
  dsimp only
  rw [intsD_of]
  rfl
def wysL (many : Int) (rows : List (List Int)) : List (List Int) := (H.rowsF rows.length rows.length).filter fun r => decide ((nubI (U.mapOf many rows r)).length = 1)
section
variable (ns : List Int) (a1 : Option (Bool × D)) {es : List D} {many : Int} {rows : List (List Int)} (a5 a6 a7 a8 a9 a10 a11 : Option (Bool × D))
variable (Sy : SysOk many rows) (L : H.OnlyLast many rows) (hr6 : rows.length ≤ 6) (hr1 : 1 ≤ rows.length)
include Sy L hr6 hr1
theorem ends_ok (hb : BxI es) : (b_law_8 (S ns a1 es many rows (some (false, .int rows.length)) a5 a6 a7 a8 a9 a10 a11)).wp fun r => r.1 = .nx ∧ ∃ es' a6 a7 a8 a9 a10 a11, BxI es' ∧ r.2 = S ns a1 es' many rows (some (false, .int rows.length)) a5 a6 a7 a8 a9 a10 a11 := by
  have hrw := H.rows_ok rows.length rows.length hr6 hr6
  have hrl := H.rowsF_len hr6 rows.length hr6
  have hlo := Sy.lo
  have hhi := Sy.hi
  have hml : ∀ r, (U.mapOf many rows r).length ≤ 1000 := fun r => by rw [U.mapOf_len]; omega
  have hu : RunOk rows (ups rows.length) := fun z hz => ups_mem hz
  have htr : dTupRg (.int rows.length) = some (false, iT (ups rows.length)) := by
    unfold dTupRg
    dsimp only
    rw [if_pos (by unfold rgOkB; rw [decide_eq_true (by omega), decide_eq_true (by omega), decide_eq_true (by omega)]; rfl), Int.sub_zero, rgD_ups]
    rfl
  have hc : fLc [12] (fIt (fCall d_law_rows [(.var 4), (.var 4)])) (gN 12) (tOp2 dEq (.val (opN dLenSet [(.val (fCall d_law_map [(.var 3), (.var 12)]))])) (.val (fC (.int 1)))) (fVar 12) (S ns a1 es many rows (some (false, .int rows.length)) a5 a6 a7 a8 a9 a10 a11) =
      .ok (true, .lst ((wysL many rows).map iT), S ns a1 es many rows (some (false, .int rows.length)) a5 a6 a7 a8 a9 a10 a11) := by
    have h := fLc_filter (vs := [12]) (fi := fIt (fCall d_law_rows [(.var 4), (.var 4)])) (t := gN 12) (cs := tOp2 dEq (.val (opN dLenSet [(.val (fCall d_law_map [(.var 3), (.var 12)]))])) (.val (fC (.int 1)))) (f := fVar 12) (ρ := S ns a1 es many rows (some (false, .int rows.length)) a5 a6 a7 a8 a9 a10 a11) (ρ1 := S ns a1 es many rows (some (false, .int rows.length)) a5 a6 a7 a8 a9 a10 a11) (ds := (H.rowsF rows.length rows.length).map iT)
      (fun d => decide ((nubI (U.mapOf many rows (rowI d))).length = 1)) id ?_ rfl (by rw [List.length_map]; have : (rows.length + 1) * 46656 ≤ 7 * 46656 := Nat.mul_le_mul_right _ (by omega); omega) fun d hd => ?_
    · rw [h, List.map_id, List.filter_map]
      have e : ((fun d => decide ((nubI (U.mapOf many rows (rowI d))).length = 1)) ∘ iT) = fun r => decide ((nubI (U.mapOf many rows r)).length = 1) := by
        funext r
        show decide ((nubI (U.mapOf many rows (rowI (iT r)))).length = 1) = _
        rw [rowI_T]
      rw [e]
      rfl
    · have him := H.imm_rowsL (H.rowsF rows.length rows.length)
      generalize (H.rowsF rows.length rows.length).map iT = RL at hrw him ⊢
      generalize (rows.length : Int) = nn at hrw
      simp [q_rows, hrw, him]
    · obtain ⟨r, hr, rfl⟩ := List.mem_map.mp hd
      have hro : RunOk rows r := fun z hz => (H.rowsF_mem _ _ r hr).2.2 z hz
      have h1 := lawMap_ok Sy hro
      have h2 := lenset_T (U.mapOf many rows r) (hml r)
      refine ⟨S ns a1 es many rows (some (false, .int rows.length)) a5 a6 a7 a8 a9 a10 a11 |>.set 12 (some (false, iT r)), S ns a1 es many rows (some (false, .int rows.length)) a5 a6 a7 a8 a9 a10 a11 |>.set 12 (some (false, iT r)), rfl, ?_, fun _ => rfl, fun _ => ⟨false, _, rfl, rfl⟩⟩
      rw [rowI_T]
      generalize (rows.length : Int) = nn
      have he : dEq (.int ((nubI (U.mapOf many rows r)).length : Int)) (.int 1) = some (decide ((nubI (U.mapOf many rows r)).length = 1)) := by
        have : dEq (.int ((nubI (U.mapOf many rows r)).length : Int)) (.int 1) = some (((nubI (U.mapOf many rows r)).length : Int) == 1) := rfl
        rw [this]
        congr 1
        rw [Bool.eq_iff_iff, decide_eq_true_eq, beq_iff_eq]
        omega
      generalize decide ((nubI (U.mapOf many rows r)).length = 1) = qq at he ⊢
      generalize ((nubI (U.mapOf many rows r)).length : Int) = nl at h2 he
      have hiM := imm_iT (U.mapOf many rows r)
      generalize iT (U.mapOf many rows r) = M at h1 h2 hiM
      generalize iT r = Ru at h1 ⊢
      simp [wipeE, q_map, h1, h2, he, hiM]
  have hway : H.wayF many rows = (wysL many rows).head? := by
    unfold wysL
    rw [List.head?_filter]
    exact (H.way_rows Sy L).symm
  have hall : wysL many rows = [] ↔ ¬ H.Cst many rows (ups rows.length) := H.way_all Sy L
  rw [← H.cst_nub Sy] at hall
  have hfg := H.forgettingRun_ok Sy L hr6
  have hwf : ((H.allR many rows).find? fun r => (H.apF (U.mapOf many rows r) many).isNone) = (wysL many rows).head? := hway
  rw [hwf] at hfg
  have hmu := lawMap_ok Sy hu
  have hls := lenset_T (U.mapOf many rows (ups rows.length)) (hml _)
  have hne0 : (nubI (U.mapOf many rows (ups rows.length))).length ≠ 0 := by
    intro e
    have h1 := H.map_ne Sy (ups rows.length)
    obtain ⟨x, l, hx⟩ := List.exists_cons_of_ne_nil h1
    have := (nubI_mem (U.mapOf many rows (ups rows.length)) x).mpr (by rw [hx]; exact List.mem_cons_self)
    rw [List.eq_nil_of_length_eq_zero e] at this
    cases this
  have hgt : dGt (.int ((nubI (U.mapOf many rows (ups rows.length))).length : Int)) (.int 1) = some (decide (wysL many rows = [])) := by
    have : dGt (.int ((nubI (U.mapOf many rows (ups rows.length))).length : Int)) (.int 1) = some (decide ((1 : Int) < ((nubI (U.mapOf many rows (ups rows.length))).length : Int))) := rfl
    rw [this]
    congr 1
    rw [decide_eq_decide, hall]
    omega
  have hee : dEq (.lst ((wysL many rows).map iT)) (.lst []) = some (decide (wysL many rows = [])) := by
    unfold dEq
    have h2 : D.good (.lst ((wysL many rows).map iT)) = true := H.good_rows 58 _
    rw [h2]
    cases wysL many rows with
    | nil => rfl
    | cons x l => rfl
  have hen : dNe (.lst ((wysL many rows).map iT)) (.lst []) = some (!decide (wysL many rows = [])) := by
    unfold dNe
    have h2 : D.good (.lst ((wysL many rows).map iT)) = true := H.good_rows 58 _
    rw [h2]
    cases wysL many rows with
    | nil => rfl
    | cons x l => rfl
  have himw := H.imm_rowsL (wysL many rows)
  have hix : ∀ w l, wysL many rows = w :: l → dIx (.lst ((wysL many rows).map iT)) (.int 0) = some (false, iT w) := fun w l e => by
    rw [e, List.map_cons]; exact v_ixL0 _ _
  unfold b_law_8
  refine seq_set (fr := true) (d := .lst ((wysL many rows).map iT)) (ρ' := S ns a1 es many rows (some (false, .int rows.length)) a5 a6 a7 a8 a9 a10 a11) hc ?_
  unfold b_law_7
  refine seq_nx (ρ' := S ns a1 es many rows (some (false, .int rows.length)) a5 (some (true, .lst ((wysL many rows).map iT))) a7 a8 a9 a10 a11) ?_ ?_
  · generalize (rows.length : Int) = nn
    cases hW : wysL many rows with
    | nil =>
      rw [hW] at hfg hen himw
      have hfg : H.d_forgetting_run [sysD many rows] = .ok (false, .non, []) := hfg
      have hen : dNe (.lst []) (.lst []) = some false := hen
      have hsm : lawSame 40 [.non, .non] = .ok (false, .bl true, []) := same_ok 39 _ rfl
      show sIf _ _ _ (S ns a1 es many rows (some (false, .int nn)) a5 (some (true, .lst [])) a7 a8 a9 a10 a11) = .ok (.nx, S ns a1 es many rows (some (false, .int nn)) a5 (some (true, .lst [])) a7 a8 a9 a10 a11)
      simp [q_same, q_fgr, hfg, hen, hsm, pmW, pmx]
    | cons w l =>
      have h0 := hix w l hW
      rw [hW] at hfg hen himw h0
      have hfg : H.d_forgetting_run [sysD many rows] = .ok (false, iT w, []) := hfg
      rw [decide_eq_false (by simp)] at hen
      have hsm := same_iT w
      have hiw := imm_iT w
      generalize (w :: l).map iT = W at hen himw h0 ⊢
      generalize iT w = w0 at hfg h0 hsm hiw
      simp [q_same, q_fgr, hfg, hen, hsm, himw, h0, hiw, pmW, pmx]
  · refine O.wp_of (a := (.nx, S ns a1 es many rows (some (false, .int rows.length)) a5 (some (true, .lst ((wysL many rows).map iT))) a7 a8 a9 a10 a11)) ?_ ⟨rfl, es, _, _, _, _, _, _, hb, rfl⟩
    have hbb : ∀ q : Bool, dNe (.bl q) (.bl q) = some false := fun q => by cases q <;> rfl
    unfold b_law_6
    generalize ((nubI (U.mapOf many rows (ups rows.length))).length : Int) = nl at hls hgt
    have hiM := imm_iT (U.mapOf many rows (ups rows.length))
    generalize iT (U.mapOf many rows (ups rows.length)) = MU at hmu hls hiM
    have hiu := imm_iT (ups rows.length)
    generalize iT (ups rows.length) = UU at hmu htr hiu
    generalize (rows.length : Int) = nn at htr ⊢
    generalize decide (wysL many rows = []) = qq at hgt hee
    generalize (wysL many rows).map iT = W at hee himw ⊢
    simp [q_map, htr, hmu, hls, hgt, hee, hbb, himw, hiu, hiM, blO]
end
theorem yes (ns : List Int) (hl : ns.length ≤ 63) (hb : ∀ z ∈ ns, Builtin.Int.intBits z ≤ 1048576) : Yes d_law ns := by
  refine H.law_frame (n := 12) ns (fun rest => ∃ a2 a3 tail, rest = a2 :: a3 :: tail ∧ ∃ a4 a5 a6 a7 a8 a9 a10 a11, tail = [a4, a5, a6, a7, a8, a9, a10, a11, none, none]) (by decide) (by decide) ⟨none, none, _, rfl, none, none, none, none, none, none, none, none, rfl⟩ (fun k rest hk0 hk hr => ?_)
  unfold b_law_10
  refine H.sys_frame (most := 24) ns (fun tail => ∃ a4 a5 a6 a7 a8 a9 a10 a11, tail = [a4, a5, a6, a7, a8, a9, a10, a11, none, none]) (by decide) (fun k es many rows tail hk0 hk hb hD hm hj => ?_) k rest hk0 hk hr
  obtain ⟨a4, a5, a6, a7, a8, a9, a10, a11, rfl⟩ := hj
  have Sy := hD.sys
  have L := hD.last
  have hr6 := hD.hi
  have hr1 := hD.lo
  unfold b_law_9
  refine seq_set (fr := false) (d := .int rows.length) (ρ' := S ns (some (false, .int k)) es many rows a4 a5 a6 a7 a8 a9 a10 a11) ?_ ?_
  · have hlr : dLen [.tup (rows.map iT)] = some (false, .int rows.length) := by rw [v_lenT, List.length_map]
    have h3 := v_sys1 many rows
    generalize (rows.length : Int) = nr at hlr
    generalize hR : D.tup (rows.map iT) = R at hlr h3
    simp [h3, hlr, -v_sys1]
  have ht := fun (es : List D) (hb : BxI es) a5 a6 a7 a8 a9 a10 a11 => turn_ok ns (some (false, .int k)) a5 a6 a7 a8 a9 a10 a11 Sy L hr6 hr1 (es := es) hb
  have he := fun (es : List D) (hb : BxI es) a5 a6 a7 a8 a9 a10 a11 => ends_ok ns (some (false, .int k)) a5 a6 a7 a8 a9 a10 a11 Sy L hr6 hr1 (es := es) hb
  generalize some (false, D.int (rows.length : Int)) = a4' at ht he
  refine seq_wp ?_
  rw [r_for]
  refine O.wp_bind (O.wp_of (a := ((ups 4).map .int, S ns (some (false, .int k)) es many rows a4' a5 a6 a7 a8 a9 a10 a11)) (by have h3 := rg1_ok (by decide : (0:Int) ≤ 4) (by decide); simp [h3]) ?_)
  refine forL_wp (fun _ ρ => ∃ es a5 a7 a8 a9 a10 a11, BxI es ∧ ρ = S ns (some (false, .int k)) es many rows a4' a5 a6 a7 a8 a9 a10 a11) (fun d ds ρ hI => ?_) (fun ρ hI => ?_) _ _ ⟨es, a5, a7, a8, a9, a10, a11, hb, rfl⟩
  · obtain ⟨fs, b5, b7, b8, b9, b10, b11, hbf, rfl⟩ := hI
    refine ⟨_, rfl, O.wp_mono (ht fs hbf (some (false, d)) a6 b7 b8 b9 b10 b11) fun r h => ?_⟩
    obtain ⟨h1, es', c7, c8, c9, c10, c11, h2, h3⟩ := h
    rw [h1]
    exact ⟨es', _, c7, c8, c9, c10, c11, h2, h3⟩
  · obtain ⟨fs, b5, b7, b8, b9, b10, b11, hbf, rfl⟩ := hI
    refine ⟨rfl, O.wp_mono (he fs hbf b5 a6 b7 b8 b9 b10 b11) fun r h => ?_⟩
    obtain ⟨h1, es', c6, c7, c8, c9, c10, c11, h2, h3⟩ := h
    exact ⟨h1, _, _, _, _, h3, _, _, _, _, _, _, _, _, rfl⟩
end G_k17_whole_forgotten_exactly
namespace G_k17_whole_forgotten_exactly
open PySem PySem.Spec PyProof.Rows L2 U
theorem all_mk {w : World} {K : PySem.W.Frag} {mg : Str → Option Value} {fa : Addr} (x : Fx K mg) (hmg : mg "law" = some (.ref fa)) :
    ∃ fd : FuncData, (∀ (s : Shared) (u : Value), BindsTo s fd ⟨[u], []⟩ [("script", u)]) ∧ ∀ base : Heap, K.In base → base.Ns mainGlobals mg → FnOk PySem.Challenge.rw_onlylast_k17_whole_forgotten_exactly.prog w K mg base CX0 42 fa fd ["script"] (spOf (cc0 PySem.Challenge.rw_onlylast_k17_whole_forgotten_exactly.prog w K) false d_law) :=
  law_mk x.n_law bn_law hmg fun base _ _ => ok_law x ⟨rfl, rfl, rfl⟩
theorem head {w : World} {K : PySem.W.Frag} {H : Hp} {a : Addr} {ns : List Int} (hl : ns.length ≤ 63) (hb : ∀ z ∈ ns, Builtin.Int.intBits z ≤ 1048576) (hO : L2.Only H) (hS : SqL K H a (ns.map V.int)) : spOf (cc0 PySem.Challenge.rw_onlylast_k17_whole_forgotten_exactly.prog w K) false d_law [.ref a] H (fun v _ => v = .bl true) fun _ _ _ => False :=
  law_sp rfl hO hS (yes ns hl hb)
end G_k17_whole_forgotten_exactly
open PySem PySem.W PyProof.Rows
set_option maxHeartbeats 0 in
theorem PySem.Challenge.cw_onlylast_k17_whole_forgotten_exactly_holds : PySem.Challenge.rw_onlylast_k17_whole_forgotten_exactly.Holds := by
  w_on; o_law; k_head; (case hw => w_witness2)
  k_fill
  refine L2.walk_ofB (l := PySem.Challenge.rw_onlylast_k17_whole_forgotten_exactly) (n := 63) (k := 42) (x := "script") (CX := fun _ => L2.CX0) (sp := fun w => U.spOf (U.cc0 PySem.Challenge.rw_onlylast_k17_whole_forgotten_exactly.prog w _) false G_k17_whole_forgotten_exactly.d_law) rfl (by decide) rfl ⟨rfl, by decide, by decide⟩ (fun w h Y => PySem.W.kIn_of Y) ?F (fun _ _ a ns hl hb hO hS => G_k17_whole_forgotten_exactly.head hl hb hO hS) (fun _ _ _ _ _ h => h)
  case F =>
    intro w mg fa h KX G hmg
    refine' G_k17_whole_forgotten_exactly.all_mk ⟨(U.nm_mk KX G ?a0 ?l0 ?c0 ?k0), (U.nm_mk KX G ?a1 ?l1 ?c1 ?k1), (U.nm_mk KX G ?a2 ?l2 ?c2 ?k2), (U.nm_mk KX G ?a3 ?l3 ?c3 ?k3), (U.nm_mk KX G ?a4 ?l4 ?c4 ?k4), (U.nm_mk KX G ?a5 ?l5 ?c5 ?k5), (U.nm_mk KX G ?a6 ?l6 ?c6 ?k6), (U.nm_mk KX G ?a7 ?l7 ?c7 ?k7), (U.nm_mk KX G ?a8 ?l8 ?c8 ?k8), (U.nm_mk KX G ?a9 ?l9 ?c9 ?k9), (U.nm_mk KX G ?a10 ?l10 ?c10 ?k10), (U.nm_mk KX G ?a11 ?l11 ?c11 ?k11), (U.nm_mk KX G ?a12 ?l12 ?c12 ?k12), (U.nm_mk KX G ?a13 ?l13 ?c13 ?k13), (U.nm_mk KX G ?a14 ?l14 ?c14 ?k14), (U.nm_mk KX G ?a15 ?l15 ?c15 ?k15), (U.nm_mk KX G ?a16 ?l16 ?c16 ?k16), (U.nm_mk KX G ?a17 ?l17 ?c17 ?k17), (U.nm_mk KX G ?a18 ?l18 ?c18 ?k18), (U.nm_mk KX G ?a19 ?l19 ?c19 ?k19), (U.nm_mk KX G ?a20 ?l20 ?c20 ?k20), (U.nm_mk KX G ?a21 ?l21 ?c21 ?k21), (U.nm_mk KX G ?a22 ?l22 ?c22 ?k22), (U.nm_mk KX G ?a23 ?l23 ?c23 ?k23), (U.nm_mk KX G ?a24 ?l24 ?c24 ?k24), (U.nm_mk KX G ?a25 ?l25 ?c25 ?k25), (U.nm_mk KX G ?a26 ?l26 ?c26 ?k26), (PySem.W.mg_none_of KX G ?z0), (PySem.W.mg_none_of KX G ?z1), (PySem.W.mg_none_of KX G ?z2), (PySem.W.mg_none_of KX G ?z3), (PySem.W.mg_none_of KX G ?z4), (PySem.W.mg_none_of KX G ?z5), (PySem.W.mg_none_of KX G ?z6), (PySem.W.mg_none_of KX G ?z7), (PySem.W.mg_none_of KX G ?z8), (PySem.W.mg_none_of KX G ?z9), (PySem.W.mg_none_of KX G ?z10), (PySem.W.mg_none_of KX G ?z11), (PySem.W.mg_none_of KX G ?z12), (PySem.W.mg_none_of KX G ?z13), (PySem.W.mg_none_of KX G ?z14)⟩ hmg
    (case a0 => k_is)
    (case l0 => k_is)
    (case c0 => k_is)
    (case k0 => k_is)
    (case a1 => k_is)
    (case l1 => k_is)
    (case c1 => k_is)
    (case k1 => k_is)
    (case a2 => k_is)
    (case l2 => k_is)
    (case c2 => k_is)
    (case k2 => k_is)
    (case a3 => k_is)
    (case l3 => k_is)
    (case c3 => k_is)
    (case k3 => k_is)
    (case a4 => k_is)
    (case l4 => k_is)
    (case c4 => k_is)
    (case k4 => k_is)
    (case a5 => k_is)
    (case l5 => k_is)
    (case c5 => k_is)
    (case k5 => k_is)
    (case a6 => k_is)
    (case l6 => k_is)
    (case c6 => k_is)
    (case k6 => k_is)
    (case a7 => k_is)
    (case l7 => k_is)
    (case c7 => k_is)
    (case k7 => k_is)
    (case a8 => k_is)
    (case l8 => k_is)
    (case c8 => k_is)
    (case k8 => k_is)
    (case a9 => k_is)
    (case l9 => k_is)
    (case c9 => k_is)
    (case k9 => k_is)
    (case a10 => k_is)
    (case l10 => k_is)
    (case c10 => k_is)
    (case k10 => k_is)
    (case a11 => k_is)
    (case l11 => k_is)
    (case c11 => k_is)
    (case k11 => k_is)
    (case a12 => k_is)
    (case l12 => k_is)
    (case c12 => k_is)
    (case k12 => k_is)
    (case a13 => k_is)
    (case l13 => k_is)
    (case c13 => k_is)
    (case k13 => k_is)
    (case a14 => k_is)
    (case l14 => k_is)
    (case c14 => k_is)
    (case k14 => k_is)
    (case a15 => k_is)
    (case l15 => k_is)
    (case c15 => k_is)
    (case k15 => k_is)
    (case a16 => k_is)
    (case l16 => k_is)
    (case c16 => k_is)
    (case k16 => k_is)
    (case a17 => k_is)
    (case l17 => k_is)
    (case c17 => k_is)
    (case k17 => k_is)
    (case a18 => k_is)
    (case l18 => k_is)
    (case c18 => k_is)
    (case k18 => k_is)
    (case a19 => k_is)
    (case l19 => k_is)
    (case c19 => k_is)
    (case k19 => k_is)
    (case a20 => k_is)
    (case l20 => k_is)
    (case c20 => k_is)
    (case k20 => k_is)
    (case a21 => k_is)
    (case l21 => k_is)
    (case c21 => k_is)
    (case k21 => k_is)
    (case a22 => k_is)
    (case l22 => k_is)
    (case c22 => k_is)
    (case k22 => k_is)
    (case a23 => k_is)
    (case l23 => k_is)
    (case c23 => k_is)
    (case k23 => k_is)
    (case a24 => k_is)
    (case l24 => k_is)
    (case c24 => k_is)
    (case k24 => k_is)
    (case a25 => k_is)
    (case l25 => k_is)
    (case c25 => k_is)
    (case k25 => k_is)
    (case a26 => k_is)
    (case l26 => k_is)
    (case c26 => k_is)
    (case k26 => k_is)
    (case z0 => k_is)
    (case z1 => k_is)
    (case z2 => k_is)
    (case z3 => k_is)
    (case z4 => k_is)
    (case z5 => k_is)
    (case z6 => k_is)
    (case z7 => k_is)
    (case z8 => k_is)
    (case z9 => k_is)
    (case z10 => k_is)
    (case z11 => k_is)
    (case z12 => k_is)
    (case z13 => k_is)
    (case z14 => k_is)
