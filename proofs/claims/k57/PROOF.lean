import PyProof.Rows.All
import Wide.All
import OpenK.AllK
import Wide.FinOn
import HandS.ForMost
import HandS.Walk
import HandS.TupAny
import HandS.TupLen
import HandS.TupMul
import HandS.Conv
import HandS.Deep
import HandS.Wide
import HandS.WideBits
import HandS.WideMore
import HandS.IsInst
import HandS.Flow
import HandS.Zip
import HandS.Dict
import KE.KDictKeyed
import KE.KDictCopyH
import KE.KeyNested
import HandS.Style
import HandS.Iter
import PyProof.P3In
import KE.KRevSl
import HandS.Sort
import KE.GoesMore
import HandS.Exc
import HandS.EndBits
import HandS.SortInts
import HandS.SetFor
import HandS.Strs
import HandS.Small
import KE.KDictDisplayH
import KE.KDictLaws
import KE.KDictWalk
import KE.KDictList
import KE.SortData
import KE.SortKeyHeap
import HandS.SortKw
import KE.DataMinMax
import KE.KDictZip
import HandS.Defaults
import PySem.Challenge.RW_onlylast_k57_the_bound_of_means
set_option Elab.async false
set_option linter.all false
set_option maxRecDepth 100000
set_option maxHeartbeats 4000000
namespace U
set_option autoImplicit false
open PySem PySem.Spec PyProof.Rows L2
abbrev St := L2.St
inductive D where
  | non
  | bl (b : Bool)
  | int (i : Int)
  | str (x : Str)
  | tup (ds : List D)
  | lst (ds : List D)
  | dic (ks vs : List D)
  | fn (x : Str)
  | exc (k : Str) (d : D)
  | scr (ns : List Int)
mutual
/-- nothing that can change within -/
def D.imm : D → Bool
  | .non => true
  | .bl _ => true
  | .int _ => true
  | .str _ => true
  | .fn _ => true
  | .tup ds => D.immL ds
  | .lst _ => false
  | .dic _ _ => false
  | .exc _ _ => false
  | .scr _ => true
def D.immL : List D → Bool
  | [] => true
  | d :: ds => D.imm d && D.immL ds
end
abbrev En := List (Option (Bool × D))
inductive O (α : Type) where
  | ok (a : α)
  | ex (k : Str) (d : D) (ρ : En)
  | bad
def O.bind {α β : Type} : O α → (α → O β) → O β
  | .ok a, f => f a
  | .ex k d ρ, _ => .ex k d ρ
  | .bad, _ => .bad
def O.sat {α : Type} (p : α → Prop) (q : Str → D → En → Prop) : O α → Prop
  | .ok a => p a
  | .ex k d ρ => q k d ρ
  | .bad => False
theorem O.sat_mono {α : Type} {p p' : α → Prop} {q q' : Str → D → En → Prop} {o : O α} (h : o.sat p q) (hp : ∀ a, p a → p' a) (hq : ∀ k d ρ, q k d ρ → q' k d ρ) : o.sat p' q' := by
  cases o with
  | ok a => exact hp a h
  | ex k d ρ => exact hq k d ρ h
  | bad => exact h
theorem O.sat_then {α β : Type} {f : α → O β} {p : β → Prop} {q q' : Str → D → En → Prop} {p' : α → Prop} {o : O α} (h : (o.bind f).sat p q) (hp : ∀ a, (f a).sat p q → p' a) (hq : ∀ k d ρ, q k d ρ → q' k d ρ) : o.sat p' q' := by
  cases o with
  | ok a => exact hp a h
  | ex k d ρ => exact hq k d ρ h
  | bad => exact h.elim
structure Cc where
  K : PySem.W.Frag
  G : Str → V → Prop
  XC : Str → Option Addr
  XF : Str → Str
  P : Program
  w : World
mutual
def D.nk : D → Option NestedKey
  | .non => some .none
  | .int i => some (.num i)
  | .str x => some (.text x)
  | .tup ds => (D.nkL ds).map .tup
  | _ => none
def D.nkL : List D → Option (List NestedKey)
  | [] => some []
  | d :: ds => match d.nk, D.nkL ds with
    | some k, some ks => some (k :: ks)
    | _, _ => none
end
def D.lf : D → Option L2.Key
  | .int i => some (.inl i)
  | .str x => some (.inr x)
  | _ => none
def DkO (P : Program) (w : World) (a : Addr) (kvs : List (L2.Key × V)) (ob : Obj) : HO := .ext fun h => h.get? a = some ob ∧ kvs.length ≤ sizeLine ∧ (a == sysModules) = false ∧ ∃ vs, KV kvs vs ∧ h.DictOf (mixKind P w) a vs
abbrev KW (kvs : List (NestedKey × Addr × V)) (xs : List (NestedKey × Addr × Value)) : Prop := Paired (fun p q => p.1 = q.1 ∧ p.2.1 = q.2.1 ∧ RelV p.2.2 q.2.2) kvs xs
def DtO (P : Program) (w : World) (a : Addr) (kvs : List (NestedKey × Addr × V)) (ob : Obj) : HO := .ext fun h => h.get? a = some ob ∧ kvs.length ≤ sizeLine ∧ (a == sysModules) = false ∧ (∀ p ∈ kvs, p.1.depth ≤ 8) ∧ ∃ xs, KW kvs xs ∧
  ∃ o es ep, h.get? a = some o ∧ o.ExactDict ∧ o.data = .dict es ep ∧ es.toList = xs.map (entryOfKey (nestedKind P w)) ∧ (xs.map (·.1)).Nodup
def Cl : HO → Prop
  | .lst _ => True
  | .ext _ => True
  | _ => False
def SqF (K : PySem.W.Frag) (H : Hp) (a : Addr) (xs : List V) : Prop :=
  (∃ o, H a = some (.frz o (.lst xs))) ∨ ∃ (o : Obj) (its : Array Value) (n : Nat), K.lookup a = some o ∧ o.cls = .type "list" ∧ o.dict = none ∧ o.data = .seq its n ∧ its.size ≤ sizeLine ∧ Vals xs its.toList
theorem SqF.sqL {K : PySem.W.Frag} {H : Hp} {a : Addr} {xs : List V} (h : SqF K H a xs) : SqL K H a xs := h.imp (fun ⟨o, h⟩ => .inr ⟨o, h⟩) id
theorem SqF.keep {K : PySem.W.Frag} {H H' : Hp} {a : Addr} {xs : List V} (k : ∀ a o u, H a = some (.frz o u) → H' a = some (.frz o u)) (h : SqF K H a xs) : SqF K H' a xs := h.imp (fun ⟨o, h⟩ => ⟨o, k _ _ _ h⟩) id
mutual
inductive Rep (c : Cc) (A : Addr → Prop) (H : Hp) : V → D → Prop
  | non : Rep c A H .non .non
  | bl (b : Bool) : Rep c A H (.bl b) (.bl b)
  | int (i : Int) : Rep c A H (.int i) (.int i)
  | str (x : Str) : Rep c A H (.str x) (.str x)
  | tup {a : Addr} {xs : List V} {ds : List D} : SqT c.K H a xs → RepL c A H xs ds → Rep c A H (.ref a) (.tup ds)
  | lst {a : Addr} {xs : List V} {ds : List D} : H a = some (.lst xs) → ¬ A a → RepL c A H xs ds → Rep c A H (.ref a) (.lst ds)
  | dicK {a : Addr} {kvs : List (L2.Key × V)} {ob : Obj} {ks vs : List D} : H a = some (DkO c.P c.w a kvs ob) → ¬ A a → ks.map D.lf = kvs.map (fun p => some p.1) → RepL c A H (kvs.map (·.2)) vs → Rep c A H (.ref a) (.dic ks vs)
  | dicT {a : Addr} {kvs : List (NestedKey × Addr × V)} {ob : Obj} {ks vs : List D} : H a = some (DtO c.P c.w a kvs ob) → ¬ A a → kvs ≠ [] → ks.map D.nk = kvs.map (fun p => some p.1) → RepL c A H (kvs.map fun p => V.ref p.2.1) ks → RepL c A H (kvs.map (·.2.2)) vs → Rep c A H (.ref a) (.dic ks vs)
  | fn {x : Str} {v : V} : c.G x v → Rep c A H v (.fn x)
  | scr {a : Addr} {ns : List Int} : SqF c.K H a (ns.map V.int) → Rep c A H (.ref a) (.scr ns)
inductive RepL (c : Cc) (A : Addr → Prop) (H : Hp) : List V → List D → Prop
  | nil : RepL c A H [] []
  | cons {v : V} {vs : List V} {d : D} {ds : List D} : Rep c A H v d → RepL c A H vs ds → RepL c A H (v :: vs) (d :: ds)
end
section
variable {c : Cc} {A A' : Addr → Prop} {H H' : Hp}
mutual
theorem Rep.mono (hT : ∀ a xs, SqT c.K H a xs → SqT c.K H' a xs) (hL : ∀ a u, Cl u → H a = some u → ¬ A a → H' a = some u ∧ ¬ A' a) (hF : ∀ a o u, H a = some (.frz o u) → H' a = some (.frz o u)) : ∀ (d : D) (v : V), Rep c A H v d → Rep c A' H' v d
  | .non, _, h => by cases h; exact .non
  | .bl b, _, h => by cases h; exact .bl b
  | .int i, _, h => by cases h; exact .int i
  | .str x, _, h => by cases h; exact .str x
  | .tup ds, _, h => by
    cases h with
    | tup h1 h2 => exact .tup (hT _ _ h1) (RepL.mono hT hL hF ds _ h2)
  | .lst ds, _, h => by
    cases h with
    | lst h1 h2 h3 => exact .lst (hL _ _ (by exact trivial) h1 h2).1 (hL _ _ (by exact trivial) h1 h2).2 (RepL.mono hT hL hF ds _ h3)
  | .dic ks vs, _, h => by
    cases h with
    | dicK h1 h2 h3 h4 => exact .dicK (hL _ _ (by exact trivial) h1 h2).1 (hL _ _ (by exact trivial) h1 h2).2 h3 (RepL.mono hT hL hF vs _ h4)
    | dicT h1 h2 hne h3 h4 h5 => exact .dicT (hL _ _ (by exact trivial) h1 h2).1 (hL _ _ (by exact trivial) h1 h2).2 hne h3 (RepL.mono hT hL hF ks _ h4) (RepL.mono hT hL hF vs _ h5)
  | .fn x, _, h => by
    cases h with
    | fn h => exact .fn h
  | .exc _ _, _, h => by cases h
  | .scr _, _, h => by
    cases h with
    | scr h => exact .scr (h.keep hF)
theorem RepL.mono (hT : ∀ a xs, SqT c.K H a xs → SqT c.K H' a xs) (hL : ∀ a u, Cl u → H a = some u → ¬ A a → H' a = some u ∧ ¬ A' a) (hF : ∀ a o u, H a = some (.frz o u) → H' a = some (.frz o u)) : ∀ (ds : List D) (vs : List V), RepL c A H vs ds → RepL c A' H' vs ds
  | [], _, h => by cases h; exact .nil
  | d :: ds, _, h => by
    cases h with
    | cons h1 h2 => exact .cons (Rep.mono hT hL hF d _ h1) (RepL.mono hT hL hF ds _ h2)
end
mutual
theorem Rep.imm (hT : ∀ a xs, SqT c.K H a xs → SqT c.K H' a xs) (hF : ∀ a o u, H a = some (.frz o u) → H' a = some (.frz o u)) : ∀ (d : D) (v : V), d.imm = true → Rep c A H v d → Rep c A' H' v d
  | .non, _, _, h => by cases h; exact .non
  | .bl b, _, _, h => by cases h; exact .bl b
  | .int i, _, _, h => by cases h; exact .int i
  | .str x, _, _, h => by cases h; exact .str x
  | .tup ds, _, e, h => by
    cases h with
    | tup h1 h2 => exact .tup (hT _ _ h1) (RepL.imm hT hF ds _ (by unfold D.imm at e; exact e) h2)
  | .lst ds, _, e, h => by unfold D.imm at e; cases e
  | .dic _ _, _, e, h => by unfold D.imm at e; cases e
  | .fn x, _, _, h => by
    cases h with
    | fn h => exact .fn h
  | .exc _ _, _, _, h => by cases h
  | .scr _, _, _, h => by
    cases h with
    | scr h => exact .scr (h.keep hF)
theorem RepL.imm (hT : ∀ a xs, SqT c.K H a xs → SqT c.K H' a xs) (hF : ∀ a o u, H a = some (.frz o u) → H' a = some (.frz o u)) : ∀ (ds : List D) (vs : List V), D.immL ds = true → RepL c A H vs ds → RepL c A' H' vs ds
  | [], _, _, h => by cases h; exact .nil
  | d :: ds, _, e, h => by
    unfold D.immL at e
    have e1 := Bool.and_eq_true_iff.mp e
    cases h with
    | cons h1 h2 => exact .cons (Rep.imm hT hF d _ e1.1 h1) (RepL.imm hT hF ds _ e1.2 h2)
end
theorem RepL.len : ∀ {vs : List V} {ds : List D}, RepL c A H vs ds → vs.length = ds.length
  | _, _, .nil => rfl
  | _, _, .cons _ t => by simp [RepL.len t]
theorem RepL.get : ∀ {vs : List V} {ds : List D} {i : Nat} {d : D}, RepL c A H vs ds → ds[i]? = some d → ∃ v, vs[i]? = some v ∧ Rep c A H v d
  | _, _, _, _, .nil, e => by simp at e
  | _, _, 0, _, .cons r _, e => by simp at e; subst e; exact ⟨_, rfl, r⟩
  | _, _, i + 1, _, .cons _ t, e => by
    obtain ⟨v, h1, h2⟩ := RepL.get (i := i) t (by simpa using e)
    exact ⟨v, by simpa using h1, h2⟩
theorem RepL.getV : ∀ {vs : List V} {ds : List D} {i : Nat} {v : V}, RepL c A H vs ds → vs[i]? = some v → ∃ d, ds[i]? = some d ∧ Rep c A H v d
  | _, _, _, _, .nil, e => by simp at e
  | _, _, 0, _, .cons r _, e => by simp at e; subst e; exact ⟨_, rfl, r⟩
  | _, _, i + 1, _, .cons _ t, e => by
    obtain ⟨v, h1, h2⟩ := RepL.getV (i := i) t (by simpa using e)
    exact ⟨v, by simpa using h1, h2⟩
theorem RepL.app : ∀ {vs ws : List V} {ds es : List D}, RepL c A H vs ds → RepL c A H ws es → RepL c A H (vs ++ ws) (ds ++ es)
  | _, _, _, _, .nil, s => s
  | _, _, _, _, .cons r t, s => .cons r (RepL.app t s)
theorem RepL.take : ∀ {vs : List V} {ds : List D} (n : Nat), RepL c A H vs ds → RepL c A H (vs.take n) (ds.take n)
  | _, _, 0, _ => .nil
  | _, _, _ + 1, .nil => .nil
  | _, _, n + 1, .cons r t => .cons r (RepL.take n t)
theorem RepL.drop : ∀ {vs : List V} {ds : List D} (n : Nat), RepL c A H vs ds → RepL c A H (vs.drop n) (ds.drop n)
  | _, _, 0, r => r
  | _, _, _ + 1, .nil => .nil
  | _, _, n + 1, .cons _ t => RepL.drop n t
theorem RepL.set {v : V} {d : D} (r : Rep c A H v d) : ∀ {vs : List V} {ds : List D} (i : Nat), RepL c A H vs ds → RepL c A H (vs.set i v) (ds.set i d)
  | _, _, _, .nil => .nil
  | _, _, 0, .cons _ t => .cons r t
  | _, _, i + 1, .cons q t => .cons q (RepL.set r i t)
theorem RepL.rep {vs : List V} {ds : List D} (h : RepL c A H vs ds) : ∀ k : Nat, RepL c A H (List.replicate k vs).flatten (List.replicate k ds).flatten
  | 0 => .nil
  | k + 1 => by
    rw [List.replicate_succ, List.replicate_succ, List.flatten_cons, List.flatten_cons]
    exact RepL.app h (RepL.rep h k)
end
theorem RepL.split {c : Cc} {A : Addr → Prop} {H : Hp} : ∀ {vs ws : List V} {ds es : List D}, vs.length = ds.length → RepL c A H (vs ++ ws) (ds ++ es) → RepL c A H vs ds ∧ RepL c A H ws es
  | [], _, [], _, _, h => ⟨.nil, h⟩
  | _ :: _, _, [], _, e, _ => by simp at e
  | [], _, _ :: _, _, e, _ => by simp at e
  | _ :: _, _, _ :: _, _, e, h => by
    cases h with
    | cons h1 h2 =>
      have := RepL.split (by simpa using e) h2
      exact ⟨.cons h1 this.1, this.2⟩
inductive Cell (c : Cc) (H : Hp) (a : Addr) : D → List V → List D → Prop
  | lst {xs : List V} {ds : List D} : H a = some (.lst xs) → Cell c H a (.lst ds) xs ds
  | dicK {kvs : List (L2.Key × V)} {ob : Obj} {ks vs : List D} : H a = some (DkO c.P c.w a kvs ob) → ks.map D.lf = kvs.map (fun p => some p.1) → Cell c H a (.dic ks vs) (kvs.map (·.2)) vs
  | dicT {kvs : List (NestedKey × Addr × V)} {ob : Obj} {ks vs : List D} : H a = some (DtO c.P c.w a kvs ob) → kvs ≠ [] → ks.map D.nk = kvs.map (fun p => some p.1) → Cell c H a (.dic ks vs) ((kvs.map fun p => V.ref p.2.1) ++ kvs.map (·.2.2)) (ks ++ vs)
section
variable {c : Cc} {A : Addr → Prop} {H H' : Hp} {a : Addr} {d : D} {xs : List V} {ds : List D}
theorem Cell.at (h : Cell c H a d xs ds) : ∃ u, H a = some u ∧ Cl u := by
  cases h with
  | lst h => exact ⟨_, h, trivial⟩
  | dicK h _ => exact ⟨_, h, trivial⟩
  | dicT h _ _ => exact ⟨_, h, trivial⟩
theorem Cell.ne (h : Cell c H a d xs ds) : H a ≠ none := by
  obtain ⟨u, e, _⟩ := h.at
  rw [e]; exact fun z => nomatch z
theorem Cell.move (h : Cell c H a d xs ds) (k : ∀ u, H a = some u → H' a = some u) : Cell c H' a d xs ds := by
  cases h with
  | lst h => exact .lst (k _ h)
  | dicK h h1 => exact .dicK (k _ h) h1
  | dicT h hne h1 => exact .dicT (k _ h) hne h1
theorem Cell.rep (h : Cell c H a d xs ds) (ha : ¬ A a) (r : RepL c A H xs ds) : Rep c A H (.ref a) d := by
  cases h with
  | lst h => exact .lst h ha r
  | dicK h h1 => exact .dicK h ha h1 r
  | dicT h hne h1 =>
    have hl := congrArg List.length h1
    rw [List.length_map, List.length_map] at hl
    have := RepL.split (by rw [List.length_map]; exact hl.symm) r
    exact .dicT h ha hne h1 this.1 this.2
theorem Cell.toL {ds' : List D} (h : Cell c H a (.lst ds) xs ds') : ds' = ds ∧ H a = some (.lst xs) := by
  cases h with
  | lst h => exact ⟨rfl, h⟩
end
def Own (σ : St) (ρ : En) (a : Addr) : Prop := ∃ (i : Nat) (d : D), ρ[i]? = some (some (true, d)) ∧ σ[i]? = some (some (.ref a))
abbrev Av (σ : St) (ρ : En) (Z : Addr → Prop) : Addr → Prop := fun a => Z a ∨ Own σ ρ a
structure R (c : Cc) (σ : St) (H : Hp) (ρ : En) (Z : Addr → Prop) (B : Hp) : Prop where
  len : σ.length = ρ.length
  frz : ∀ (i : Nat) (d : D), ρ[i]? = some (some (false, d)) → ∃ v, σ[i]? = some (some v) ∧ Rep c (Av σ ρ Z) H v d
  own : ∀ (i : Nat) (d : D), ρ[i]? = some (some (true, d)) → ∃ (a : Addr) (ds : List D) (xs : List V), σ[i]? = some (some (.ref a)) ∧ Cell c H a d xs ds ∧ RepL c (Av σ ρ Z) H xs ds ∧ ¬ Z a ∧ B a = none
  excl : ∀ (i j : Nat) (di dj : D) (a : Addr), ρ[i]? = some (some (true, di)) → ρ[j]? = some (some (true, dj)) → σ[i]? = some (some (.ref a)) → σ[j]? = some (some (.ref a)) → i = j
  base : ∀ b o, B b = some o → H b = some o
  zd : ∀ b, Z b → H b ≠ none
theorem Rd.same {H H' : Hp} (s : Same H H') {a : Addr} {u : HO} (h : Rd H a u) : Rd H' a u := by
  rcases h with h | ⟨o, h⟩
  · exact .inl (s _ _ h)
  · exact .inr ⟨o, s _ _ h⟩
theorem SqT.same {K : PySem.W.Frag} {H H' : Hp} (s : Same H H') {a : Addr} {xs : List V} (h : SqT K H a xs) : SqT K H' a xs := by
  rcases h with h | h
  · exact .inl (Rd.same s h)
  · exact .inr h
section
variable {c : Cc} {A A' : Addr → Prop} {H H' : Hp}
theorem Rep.same (s : Same H H') {v : V} {d : D} (h : Rep c A H v d) : Rep c A H' v d := Rep.mono (fun _ _ => SqT.same s) (fun _ _ _ h1 h2 => ⟨s _ _ h1, h2⟩) (fun _ _ _ h => s _ _ h) d v h
theorem RepL.same (s : Same H H') {v : List V} {d : List D} (h : RepL c A H v d) : RepL c A H' v d := RepL.mono (fun _ _ => SqT.same s) (fun _ _ _ h1 h2 => ⟨s _ _ h1, h2⟩) (fun _ _ _ h => s _ _ h) d v h
theorem Rep.avoid (k : ∀ a, A' a → A a ∨ H a = none) {v : V} {d : D} (h : Rep c A H v d) : Rep c A' H v d :=
  Rep.mono (fun _ _ h => h) (fun a xs _ h1 h2 => ⟨h1, fun z => (k a z).elim h2 fun e => by rw [e] at h1; cases h1⟩) (fun _ _ _ h => h) d v h
theorem RepL.avoid (k : ∀ a, A' a → A a ∨ H a = none) {v : List V} {d : List D} (h : RepL c A H v d) : RepL c A' H v d :=
  RepL.mono (fun _ _ h => h) (fun a xs _ h1 h2 => ⟨h1, fun z => (k a z).elim h2 fun e => by rw [e] at h1; cases h1⟩) (fun _ _ _ h => h) d v h
theorem Rep.immA {v : V} {d : D} (e : d.imm = true) (h : Rep c A H v d) : Rep c A' H v d := Rep.imm (fun _ _ h => h) (fun _ _ _ h => h) d v e h
theorem RepL.immA {v : List V} {d : List D} (e : D.immL d = true) (h : RepL c A H v d) : RepL c A' H v d := RepL.imm (fun _ _ h => h) (fun _ _ _ h => h) d v e h
def But (W : Addr → Prop) (H H' : Hp) : Prop := ∀ b o, ¬ W b → H b = some o → H' b = some o
theorem But.sqT {W : Addr → Prop} (s : But W H H') (hw : ∀ b, W b → ∃ u, H b = some u ∧ Cl u) {K : PySem.W.Frag} {a : Addr} {xs : List V} (h : SqT K H a xs) : SqT K H' a xs := by
  rcases h with (h | ⟨o, h⟩) | h
  · exact .inl (.inl (s _ _ (fun z => by obtain ⟨ys, e, cl⟩ := hw _ z; rw [h] at e; cases e; exact cl) h))
  · exact .inl (.inr ⟨o, s _ _ (fun z => by obtain ⟨ys, e, cl⟩ := hw _ z; rw [h] at e; cases e; exact cl) h⟩)
  · exact .inr h
theorem Rep.but {W : Addr → Prop} (s : But W H H') (hw : ∀ b, W b → ∃ u, H b = some u ∧ Cl u) (ha : ∀ b, W b → A b) {v : V} {d : D} (h : Rep c A H v d) : Rep c A H' v d :=
  Rep.mono (fun _ _ => But.sqT s hw) (fun a xs _ h1 h2 => ⟨s _ _ (fun z => h2 (ha _ z)) h1, h2⟩) (fun a o u h => s _ _ (fun z => by obtain ⟨ys, e, cl⟩ := hw _ z; rw [h] at e; cases e; exact cl) h) d v h
theorem RepL.but {W : Addr → Prop} (s : But W H H') (hw : ∀ b, W b → ∃ u, H b = some u ∧ Cl u) (ha : ∀ b, W b → A b) {v : List V} {d : List D} (h : RepL c A H v d) : RepL c A H' v d :=
  RepL.mono (fun _ _ => But.sqT s hw) (fun a xs _ h1 h2 => ⟨s _ _ (fun z => h2 (ha _ z)) h1, h2⟩) (fun a o u h => s _ _ (fun z => by obtain ⟨ys, e, cl⟩ := hw _ z; rw [h] at e; cases e; exact cl) h) d v h
end
section
variable {c : Cc} {σ : St} {H H' : Hp} {ρ : En} {Z Z' : Addr → Prop} {B B' : Hp}
theorem R.same (r : R c σ H ρ Z B) (s : Same H H') : R c σ H' ρ Z B where
  len := r.len
  frz := fun i d e => let ⟨v, h1, h2⟩ := r.frz i d e; ⟨v, h1, h2.same s⟩
  own := fun i d e => let ⟨a, ds, xs, h2, h3, h4, h5, h6⟩ := r.own i d e; ⟨a, ds, xs, h2, h3.move fun _ q => s _ _ q, h4.same s, h5, h6⟩
  excl := r.excl
  base := fun b o e => s _ _ (r.base b o e)
  zd := fun b z e => r.zd b z (Same.free s e)
open Classical in
noncomputable def hull (σ : St) (ρ : En) (H : Hp) : Hp := fun b => if Own σ ρ b then none else H b
theorem hull_own {b : Addr} (h : Own σ ρ b) : hull σ ρ H b = none := by unfold hull; rw [if_pos h]
theorem hull_not {b : Addr} (h : ¬ Own σ ρ b) : hull σ ρ H b = H b := by unfold hull; rw [if_neg h]
theorem R.ownL (r : R c σ H ρ Z B) {b : Addr} (h : Own σ ρ b) : ∃ u, H b = some u ∧ Cl u := by
  obtain ⟨i, d, e1, e2⟩ := h
  obtain ⟨a, ds, xs, h2, h3, _⟩ := r.own i d e1
  rw [h2] at e2
  cases e2
  exact h3.at
theorem R.ownB (r : R c σ H ρ Z B) {b : Addr} (h : Own σ ρ b) : B b = none ∧ ¬ Z b := by
  obtain ⟨i, d, e1, e2⟩ := h
  obtain ⟨a, ds, xs, h2, h3, h4, h5, h6⟩ := r.own i d e1
  rw [h2] at e2
  cases e2
  exact ⟨h6, h5⟩
theorem R.strong (r : R c σ H ρ Z B) : R c σ H ρ Z (hull σ ρ H) where
  len := r.len
  frz := r.frz
  own := fun i d e => by
    obtain ⟨a, ds, xs, h2, h3, h4, h5, h6⟩ := r.own i d e
    exact ⟨a, ds, xs, h2, h3, h4, h5, hull_own ⟨i, d, e, h2⟩⟩
  excl := r.excl
  base := fun b o e => by
    by_cases h : Own σ ρ b
    · rw [hull_own h] at e; cases e
    · rw [hull_not h] at e; exact e
  zd := r.zd
theorem R.hull_le (r : R c σ H ρ Z B) : ∀ b o, B b = some o → hull σ ρ H b = some o := fun b o e => by
  rw [hull_not (fun h => by rw [(r.ownB h).1] at e; cases e)]
  exact r.base b o e
theorem R.weak (r : R c σ H ρ Z B') (hb : ∀ b o, B b = some o → B' b = some o) : R c σ H ρ Z B where
  len := r.len
  frz := r.frz
  own := fun i d e => by
    obtain ⟨a, ds, xs, h2, h3, h4, h5, h6⟩ := r.own i d e
    refine ⟨a, ds, xs, h2, h3, h4, h5, ?_⟩
    cases q : B a with
    | none => rfl
    | some o => rw [hb a o q] at h6; cases h6
  excl := r.excl
  base := fun b o e => r.base b o (hb b o e)
  zd := r.zd
theorem R.less (r : R c σ H ρ Z' B) (hz : ∀ b, Z b → Z' b) : R c σ H ρ Z B where
  len := r.len
  frz := fun i d e => by
    obtain ⟨v, h1, h2⟩ := r.frz i d e
    exact ⟨v, h1, h2.avoid fun a z => .inl (z.imp (hz a) id)⟩
  own := fun i d e => by
    obtain ⟨a, ds, xs, h2, h3, h4, h5, h6⟩ := r.own i d e
    exact ⟨a, ds, xs, h2, h3, h4.avoid fun a z => .inl (z.imp (hz a) id), fun z => h5 (hz _ z), h6⟩
  excl := r.excl
  base := r.base
  zd := fun b z => r.zd b (hz b z)
theorem R.keep {σ' : St} {ρ' : En} {B' : Hp} (r : R c σ H ρ Z B) (r' : R c σ' H' ρ' Z' B') (hb : ∀ b o, hull σ ρ H b = some o → B' b = some o) : But (Own σ ρ) H H' := fun b o n e => r'.base b o (hb b o (by rw [hull_not n]; exact e))
theorem R.ownLe {σ' : St} {ρ' : En} {B' : Hp} (r' : R c σ' H' ρ' Z' B') (hb : ∀ b o, hull σ ρ H b = some o → B' b = some o) {a : Addr} (h : Own σ' ρ' a) : Own σ ρ a ∨ H a = none := by
  have := (r'.ownB h).1
  by_cases q : Own σ ρ a
  · exact .inl q
  · cases e : H a with
    | none => exact .inr rfl
    | some o => rw [hb a o (by rw [hull_not q]; exact e)] at this; cases this
theorem R.keepV' {σ' : St} {ρ' : En} {B' : Hp} (r : R c σ H ρ Z B) (r' : R c σ' H' ρ' Z' B') (hb : ∀ b o, hull σ ρ H b = some o → B' b = some o) (hz : ∀ b, Z' b → Z b ∨ H b = none) {v : V} {d : D} (h : Rep c (Av σ ρ Z) H v d) : Rep c (Av σ' ρ' Z') H' v d := by
  have h1 : Rep c (fun a => (Z a ∨ Own σ ρ a) ∨ Av σ' ρ' Z' a) H v d := h.avoid fun a z => by
    rcases z with z | z | z
    · exact .inl z
    · exact (hz a z).imp .inl id
    · exact (R.ownLe r' hb z).imp .inr id
  have h2 := Rep.but (r.keep r' hb) (fun b z => r.ownL z) (fun b z => .inl (.inr z)) h1
  exact h2.avoid fun a z => .inl (.inr z)
theorem R.keepL' {σ' : St} {ρ' : En} {B' : Hp} (r : R c σ H ρ Z B) (r' : R c σ' H' ρ' Z' B') (hb : ∀ b o, hull σ ρ H b = some o → B' b = some o) (hz : ∀ b, Z' b → Z b ∨ H b = none) {v : List V} {d : List D} (h : RepL c (Av σ ρ Z) H v d) : RepL c (Av σ' ρ' Z') H' v d := by
  have h1 : RepL c (fun a => (Z a ∨ Own σ ρ a) ∨ Av σ' ρ' Z' a) H v d := h.avoid fun a z => by
    rcases z with z | z | z
    · exact .inl z
    · exact (hz a z).imp .inl id
    · exact (R.ownLe r' hb z).imp .inr id
  have h2 := RepL.but (r.keep r' hb) (fun b z => r.ownL z) (fun b z => .inl (.inr z)) h1
  exact h2.avoid fun a z => .inl (.inr z)
theorem R.keepV {ρ' : En} (r : R c σ H ρ Z B) (r' : R c σ H' ρ' Z (hull σ ρ H)) {v : V} {d : D} (h : Rep c (Av σ ρ Z) H v d) : Rep c (Av σ ρ' Z) H' v d := r.keepV' r' (fun _ _ h => h) (fun _ => .inl) h
end
end U
namespace U
set_option autoImplicit false
open PySem PySem.Spec PyProof.Rows L2
section
variable (c : Cc) (σ : St) (H : Hp) (ρ : En) (Z : Addr → Prop) (B : Hp)
def Val : Bool → V → D → Prop
  | true, v, d => ∃ (a : Addr) (ds : List D) (xs : List V), v = .ref a ∧ Cell c H a d xs ds ∧ RepL c (Av σ ρ fun b => Z b ∨ b = a) H xs ds ∧ ¬ Z a ∧ ¬ Own σ ρ a ∧ B a = none ∧ R c σ H ρ (fun b => Z b ∨ b = a) B
  | false, v, d => Rep c (Av σ ρ Z) H v d
end
def New (c : Cc) (A : Addr → Prop) (H H' : Hp) : Bool → V → D → Prop
  | true, v, d => Same H H' ∧ ∃ (a : Addr) (ds : List D) (xs : List V), v = .ref a ∧ H a = none ∧ Cell c H' a d xs ds ∧ RepL c A H xs ds
  | false, v, d => Same H H' ∧ Rep c A H' v d
section
variable {c : Cc} {σ : St} {H H' : Hp} {ρ : En} {Z : Addr → Prop} {B : Hp} {fr : Bool} {v : V} {d : D}
theorem Val.rep (h : Val c σ H ρ Z B fr v d) : Rep c (Av σ ρ Z) H v d := by
  cases fr with
  | false => exact h
  | true =>
    obtain ⟨a, ds, xs, rfl, h1, h2, h3, h4, _, _⟩ := h
    exact h1.rep (fun z => z.elim h3 h4) (h2.avoid fun b z => .inl (z.imp .inl id))
theorem New.sameH (n : New c (Av σ ρ Z) H H' fr v d) : Same H H' := by cases fr <;> exact n.1
theorem R.more (r : R c σ H ρ Z B) (s : Same H H') {a : Addr} (hn : H a = none) (ha : H' a ≠ none) : R c σ H' ρ (fun b => Z b ∨ b = a) B where
  len := r.len
  frz := fun i d e => by
    obtain ⟨v, h1, h2⟩ := r.frz i d e
    refine ⟨v, h1, Rep.same s (h2.avoid fun b z => ?_)⟩
    rcases z with (z | z) | z
    · exact .inl (.inl z)
    · exact .inr (by rw [z]; exact hn)
    · exact .inl (.inr z)
  own := fun i d e => by
    obtain ⟨a', ds, xs, h2, h3, h4, h5, h6⟩ := r.own i d e
    refine ⟨a', ds, xs, h2, h3.move fun _ q => s _ _ q, RepL.same s (h4.avoid fun b z => ?_), fun z => ?_, h6⟩
    · rcases z with (z | z) | z
      · exact .inl (.inl z)
      · exact .inr (by rw [z]; exact hn)
      · exact .inl (.inr z)
    · rcases z with z | z
      · exact h5 z
      · exact h3.ne (by rw [z]; exact hn)
  excl := r.excl
  base := fun b o e => s _ _ (r.base b o e)
  zd := fun b z e => by
    rcases z with z | z
    · exact r.zd b z (Same.free s e)
    · rw [z] at e; exact ha e
theorem R.new (r : R c σ H ρ Z B) (n : New c (Av σ ρ Z) H H' fr v d) : R c σ H' ρ Z B ∧ Val c σ H' ρ Z B fr v d := by
  refine ⟨r.same n.sameH, ?_⟩
  cases fr with
  | false => exact n.2
  | true =>
    obtain ⟨s, a, ds, xs, rfl, hn, h1, h2⟩ := n
    refine ⟨a, ds, xs, rfl, h1, RepL.same s (h2.avoid fun b z => ?_), fun z => r.zd a z hn, fun z => ?_, ?_, r.more s hn h1.ne⟩
    · rcases z with (z | z) | z
      · exact .inl (.inl z)
      · exact .inr (by rw [z]; exact hn)
      · exact .inl (.inr z)
    · obtain ⟨ys, e, _⟩ := r.ownL z
      rw [hn] at e; cases e
    · cases q : B a with
      | none => rfl
      | some o => have := r.base a o q; rw [hn] at this; cases this
end
def XR (c : Cc) (A : Addr → Prop) (H : Hp) (k : Str) (d : D) (cls : Value) (od : Option Addr) : Prop :=
  ∃ (C dd : Addr) (v : V), c.XC k = some C ∧ cls = .ref C ∧ od = some dd ∧ H dd = some (.xd [(c.XF k, v)]) ∧ Rep c A H v d
abbrev EF := En → O (Bool × D × En)
def XW (c : Cc) (E : XK) (σ : St) (Z : Addr → Prop) (B : Hp) : Str → D → En → Prop := fun k d ρ' => ∀ cls od H', R c σ H' ρ' Z B → XR c (Av σ ρ' Z) H' k d cls od → E cls od H'
theorem XW.weak {c : Cc} {E : XK} {σ : St} {Z : Addr → Prop} {B B' : Hp} (hb : ∀ b o, B b = some o → B' b = some o) {k : Str} {d : D} {ρ : En} (h : XW c E σ Z B k d ρ) : XW c E σ Z B' k d ρ :=
  fun cls od H' r x => h cls od H' (r.weak hb) x
def liftE (c : Cc) (E : XK) (f : EF) : TE := fun σ H Q => ∃ ρ Z B, R c σ H ρ Z B ∧ (f ρ).sat (fun r => ∀ v H', R c σ H' r.2.2 Z B → Val c σ H' r.2.2 Z B r.1 v r.2.1 → Q v H') (XW c E σ Z B)
structure DE (X : Cx) (c : Cc) (E : XK) (e : Expr) (f : EF) : Prop where
  pe : PE X e (liftE c E f)
theorem pe_imp {X : Cx} {e : Expr} {t t' : TE} (h : PE X e t) (k : ∀ σ H Q, t' σ H Q → t σ H Q) : PE X e t' := ⟨fun pins s σ H Q I q => h.run pins s σ H Q I (k σ H Q q)⟩
theorem pa_imp {X : Cx} {e : List Expr} {t t' : TA} (h : PA X e t) (k : ∀ σ H Q, t' σ H Q → t σ H Q) : PA X e t' := ⟨fun pos pins s σ H Q I q => h.run pos pins s σ H Q I (k σ H Q q)⟩
theorem pt_imp {X : Cx} {e : Expr} {t t' : TT} (h : PT X e t) (k : ∀ σ H Q, t' σ H Q → t σ H Q) : PT X e t' := ⟨fun pins s σ H Q I q => h.run pins s σ H Q I (k σ H Q q)⟩
theorem pw_imp {X : Cx} {e : Expr} {t t' : TT} (h : PW X e t) (k : ∀ σ H Q, t' σ H Q → t σ H Q) : PW X e t' := ⟨fun wh pins s σ H Q I q => h.run wh pins s σ H Q I (k σ H Q q)⟩
theorem ps_imp {X : Cx} {st : Stmt} {t t' : TS} (h : PS X st t) (k : ∀ D σ H, t' D σ H → t D σ H) : PS X st t' := ⟨fun pins s σ H D I q => h.run pins s σ H D I (k D σ H q)⟩
theorem pss_imp {X : Cx} {st : List Stmt} {t t' : TS} (h : PSs X st t) (k : ∀ D σ H, t' D σ H → t D σ H) : PSs X st t' := ⟨fun pins s σ H D I q => h.run pins s σ H D I (k D σ H q)⟩
theorem pg_imp {X : Cx} {e : Expr} {t t' : TG} (h : PG X e t) (k : ∀ v σ H Q, t' v σ H Q → t v σ H Q) : PG X e t' := ⟨fun pins s σ H v u Q I r q => h.run pins s σ H v u Q I r (k v σ H Q q)⟩
def fC (d : D) : EF := fun ρ => .ok (false, d, ρ)
def fVar (i : Nat) : EF := fun ρ => match ρ[i]? with
  | some (some (_, d)) => .ok (false, d, ρ.set i (some (false, d)))
  | _ => .bad
def fMv (i : Nat) : EF := fun ρ => match ρ[i]? with
  | some (some (true, d)) => .ok (true, d, ρ.set i none)
  | some (some (false, d)) => .ok (false, d, ρ)
  | _ => .bad
section
variable {c : Cc} {σ : St} {H H' : Hp} {ρ : En} {Z : Addr → Prop} {B : Hp} {fr : Bool} {v : V} {d : D}
theorem set_get {α : Type} {l : List α} {i j : Nat} {x y : α} (h : (l.set i x)[j]? = some y) : (i = j ∧ x = y) ∨ (i ≠ j ∧ l[j]? = some y) := by
  by_cases e : i = j
  · subst e
    by_cases k : i < l.length
    · rw [List.getElem?_set_self k] at h; exact .inl ⟨rfl, Option.some.inj h⟩
    · rw [List.getElem?_eq_none (by simpa using k)] at h; cases h
  · rw [List.getElem?_set_ne e] at h; exact .inr ⟨e, h⟩
theorem own_frz {i : Nat} {x : Option (Bool × D)} (hx : ∀ d, x ≠ some (true, d)) {a : Addr} (h : Own σ (ρ.set i x) a) : Own σ ρ a := by
  obtain ⟨j, d, h1, h2⟩ := h
  rcases set_get h1 with ⟨_, e⟩ | ⟨_, e⟩
  · exact absurd e (hx d)
  · exact ⟨j, d, e, h2⟩
theorem R.frzAt (r : R c σ H ρ Z B) {i : Nat} {b : Bool} (h : ρ[i]? = some (some (b, d))) : R c σ H (ρ.set i (some (false, d))) Z B ∧ ∃ v, σ[i]? = some (some v) ∧ Rep c (Av σ (ρ.set i (some (false, d))) Z) H v d := by
  have hx : ∀ d', (some (false, d) : Option (Bool × D)) ≠ some (true, d') := fun d' e => by cases e
  have own' : ∀ a, Av σ (ρ.set i (some (false, d))) Z a → Av σ ρ Z a := fun a z => z.imp id (own_frz hx)
  have main : ∃ v, σ[i]? = some (some v) ∧ Rep c (Av σ (ρ.set i (some (false, d))) Z) H v d := by
    cases b with
    | false =>
      obtain ⟨v, h1, h2⟩ := r.frz i d h
      exact ⟨v, h1, h2.avoid fun a z => .inl (own' a z)⟩
    | true =>
      obtain ⟨a, ds, xs, h2, h3, h4, h5, h6⟩ := r.own i d h
      refine ⟨.ref a, h2, h3.rep (fun z => ?_) (h4.avoid fun a z => .inl (own' a z))⟩
      rcases z with z | z
      · exact h5 z
      · obtain ⟨j, d', e1, e2⟩ := z
        rcases set_get e1 with ⟨_, e⟩ | ⟨ne, e⟩
        · cases e
        · exact ne (r.excl i j _ _ a h e h2 e2)
  refine ⟨⟨by rw [List.length_set]; exact r.len, fun j d' e => ?_, fun j d' e => ?_, fun j k dj dk a e1 e2 => ?_, r.base, r.zd⟩, main⟩
  · rcases set_get e with ⟨e1, e2⟩ | ⟨_, e⟩
    · cases e2; subst e1; exact main
    · obtain ⟨v, h1, h2⟩ := r.frz j d' e
      exact ⟨v, h1, h2.avoid fun a z => .inl (own' a z)⟩
  · rcases set_get e with ⟨e1, e2⟩ | ⟨_, e⟩
    · cases e2
    · obtain ⟨a, ds, xs, h2, h3, h4, h5, h6⟩ := r.own j d' e
      exact ⟨a, ds, xs, h2, h3, h4.avoid fun a z => .inl (own' a z), h5, h6⟩
  · rcases set_get e1 with ⟨_, e⟩ | ⟨_, e1⟩
    · cases e
    · rcases set_get e2 with ⟨_, e⟩ | ⟨_, e2⟩
      · cases e
      · exact r.excl j k dj dk a e1 e2
theorem R.drop (r : R c σ H ρ Z B) (i : Nat) : R c σ H (ρ.set i none) Z B := by
  have hx : ∀ d', (none : Option (Bool × D)) ≠ some (true, d') := fun d' e => by cases e
  have own' : ∀ a, Av σ (ρ.set i none) Z a → Av σ ρ Z a := fun a z => z.imp id (own_frz hx)
  refine ⟨by rw [List.length_set]; exact r.len, fun j d' e => ?_, fun j d' e => ?_, fun j k dj dk a e1 e2 => ?_, r.base, r.zd⟩
  · rcases set_get e with ⟨_, e2⟩ | ⟨_, e⟩
    · cases e2
    · obtain ⟨v, h1, h2⟩ := r.frz j d' e
      exact ⟨v, h1, h2.avoid fun a z => .inl (own' a z)⟩
  · rcases set_get e with ⟨_, e2⟩ | ⟨_, e⟩
    · cases e2
    · obtain ⟨a, ds, xs, h2, h3, h4, h5, h6⟩ := r.own j d' e
      exact ⟨a, ds, xs, h2, h3, h4.avoid fun a z => .inl (own' a z), h5, h6⟩
  · rcases set_get e1 with ⟨_, e⟩ | ⟨_, e1⟩
    · cases e
    · rcases set_get e2 with ⟨_, e⟩ | ⟨_, e2⟩
      · cases e
      · exact r.excl j k dj dk a e1 e2
theorem R.moved (r : R c σ H ρ Z B) {i : Nat} (h : ρ[i]? = some (some (true, d))) : ∃ v, σ[i]? = some (some v) ∧ Val c σ H (ρ.set i none) Z B true v d := by
  obtain ⟨a, ds, xs, h2, h3, h4, h5, h6⟩ := r.own i d h
  have hx : ∀ d', (none : Option (Bool × D)) ≠ some (true, d') := fun d' e => by cases e
  have no : ¬ Own σ (ρ.set i none) a := fun z => by
    obtain ⟨j, d', e1, e2⟩ := z
    rcases set_get e1 with ⟨_, e⟩ | ⟨ne, e⟩
    · cases e
    · exact ne (r.excl i j _ _ a h e h2 e2)
  have own' : ∀ b, Av σ (ρ.set i none) (fun b => Z b ∨ b = a) b → Av σ ρ Z b := fun b z => by
    rcases z with (z | z) | z
    · exact .inl z
    · subst z; exact .inr ⟨i, _, h, h2⟩
    · exact .inr (own_frz hx z)
  refine ⟨.ref a, h2, a, ds, xs, rfl, h3, h4.avoid fun b z => .inl (own' b z), h5, no, h6, ?_⟩
  have r' := r.drop i
  refine ⟨r'.len, fun j d' e => ?_, fun j d' e => ?_, r'.excl, r'.base, fun b z => ?_⟩
  · rcases set_get e with ⟨_, e2⟩ | ⟨_, e⟩
    · cases e2
    · obtain ⟨v, h1, h2⟩ := r.frz j d' e
      exact ⟨v, h1, h2.avoid fun a z => .inl (own' a z)⟩
  · rcases set_get e with ⟨_, e2⟩ | ⟨ne, e⟩
    · cases e2
    · obtain ⟨a2, ds, xs, k2, h3, h4, k5, h6⟩ := r.own j d' e
      refine ⟨a2, ds, xs, k2, h3, h4.avoid fun a z => .inl (own' a z), fun z => ?_, h6⟩
      rcases z with z | z
      · exact k5 z
      · subst z; exact ne (r.excl i j _ _ _ h e h2 k2)
  · rcases z with z | z
    · exact r.zd b z
    · subst z; exact h3.ne
end
section
variable {X : Cx} {c : Cc} {E : XK} {pos : Pos}
theorem de_C {e : Expr} {v : V} {d : D} (h : PE X e (tC v)) (r : ∀ A H, Rep c A H v d) : DE X c E e (fC d) :=
  ⟨pe_imp h fun σ H Q ⟨ρ, Z, B, R, q⟩ => q v H R (r _ _)⟩
theorem de_int {i : Int} {j : Nat} : DE X c E (.Constant (.int i) j pos) (fC (.int i)) := de_C pe_int fun _ _ => .int i
theorem de_bl {b : Bool} {j : Nat} : DE X c E (.Constant (.bool b) j pos) (fC (.bl b)) := de_C pe_bl fun _ _ => .bl b
theorem de_non {j : Nat} : DE X c E (.Constant .none j pos) (fC .non) := de_C pe_non fun _ _ => .non
theorem de_var {e : Expr} (i : Nat) (h : PE X e (tVar i)) : DE X c E e (fVar i) := by
  refine ⟨pe_imp h fun σ H Q ⟨ρ, Z, B, R, q⟩ => ?_⟩
  unfold fVar at q
  cases hi : ρ[i]? with
  | none => rw [hi] at q; exact q.elim
  | some o =>
    rw [hi] at q
    cases o with
    | none => exact q.elim
    | some p =>
      obtain ⟨b, d⟩ := p
      obtain ⟨r', v, h1, h2⟩ := R.frzAt hi
      exact ⟨v, h1, q v H r' h2⟩
theorem de_mv {e : Expr} (i : Nat) (h : PE X e (tVar i)) : DE X c E e (fMv i) := by
  refine ⟨pe_imp h fun σ H Q ⟨ρ, Z, B, R, q⟩ => ?_⟩
  unfold fMv at q
  cases hi : ρ[i]? with
  | none => rw [hi] at q; exact q.elim
  | some o =>
    rw [hi] at q
    cases o with
    | none => exact q.elim
    | some p =>
      obtain ⟨b, d⟩ := p
      cases b with
      | true =>
        obtain ⟨v, h1, h2⟩ := R.moved hi
        exact ⟨v, h1, q v H (R.drop i) h2⟩
      | false =>
        obtain ⟨v, h1, h2⟩ := R.frz i d hi
        exact ⟨v, h1, q v H R h2⟩
end
inductive Pk where
  | val (f : EF)
  | var (i : Nat)
def slotD (ρ : En) (i : Nat) : Option D := match ρ[i]? with
  | some (some (_, d)) => some d
  | _ => none
def Pk.ev : Pk → En → O (Option D × En)
  | .val f, ρ => (f ρ).bind fun r => .ok (some r.2.1, r.2.2)
  | .var i, ρ => match ρ[i]? with
    | some (some _) => .ok (none, ρ)
    | _ => .bad
def Pk.get (p : Pk) (od : Option D) (ρ : En) : Option D := match od with
  | some d => some d
  | none => match p with
    | .var i => slotD ρ i
    | .val _ => none
def PkV (c : Cc) (σ : St) (H : Hp) (ρ : En) (Z : Addr → Prop) (p : Pk) (od : Option D) (v : V) : Prop := match od with
  | some d => Rep c (Av σ ρ Z) H v d
  | none => ∃ i, p = .var i ∧ σ[i]? = some (some v)
def RepT (c : Cc) (A : Addr → Prop) (H : Hp) (v : V) (d : D) : Prop := Rep c A H v d ∨ ∃ (a : Addr) (ds : List D) (xs : List V), v = .ref a ∧ Cell c H a d xs ds ∧ RepL c A H xs ds
def liftP (c : Cc) (E : XK) (p : Pk) : TE := fun σ H Q => ∃ ρ Z B, R c σ H ρ Z B ∧ (p.ev ρ).sat (fun r => ∀ v H', R c σ H' r.2 Z B → PkV c σ H' r.2 Z p r.1 v → Q v H') (XW c E σ Z B)
structure DP (X : Cx) (c : Cc) (E : XK) (e : Expr) (p : Pk) : Prop where
  pe : PE X e (liftP c E p)
section
variable {X : Cx} {c : Cc} {E : XK} {e : Expr}
theorem dp_val {f : EF} (h : DE X c E e f) : DP X c E e (.val f) := by
  refine ⟨pe_imp h.pe fun σ H Q ⟨ρ, Z, B, R, q⟩ => ⟨ρ, Z, B, R, ?_⟩⟩
  exact O.sat_then (o := f ρ) q (fun r h v H' R' V' => h v H' R' V'.rep) fun _ _ _ h => h
theorem dp_var (i : Nat) (h : PE X e (tVar i)) : DP X c E e (.var i) := by
  refine ⟨pe_imp h fun σ H Q ⟨ρ, Z, B, R, q⟩ => ?_⟩
  unfold Pk.ev at q
  dsimp only at q
  cases hi : ρ[i]? with
  | none => rw [hi] at q; exact q.elim
  | some o =>
    rw [hi] at q
    cases o with
    | none => exact q.elim
    | some p =>
      obtain ⟨b, d⟩ := p
      cases b with
      | false =>
        obtain ⟨v, h1, _⟩ := R.frz i d hi
        exact ⟨v, h1, q v H R ⟨i, rfl, h1⟩⟩
      | true =>
        obtain ⟨a, _, _, h2, _⟩ := R.own i d hi
        exact ⟨_, h2, q _ H R ⟨i, rfl, h2⟩⟩
end
section
variable {c : Cc} {σ : St} {H H' : Hp} {ρ ρ' : En} {Z : Addr → Prop} {B : Hp} {p : Pk} {od : Option D} {v : V} {d : D}
theorem PkV.keep (h : PkV c σ H ρ Z p od v) (r : R c σ H ρ Z B) (r' : R c σ H' ρ' Z (hull σ ρ H)) : PkV c σ H' ρ' Z p od v := by
  cases od with
  | some d => exact r.keepV r' h
  | none => exact h
theorem PkV.fin (h : PkV c σ H ρ Z p od v) (r : R c σ H ρ Z B) (g : p.get od ρ = some d) : RepT c (Av σ ρ Z) H v d := by
  cases od with
  | some d' =>
    have e : d' = d := Option.some.inj g
    subst e
    exact .inl h
  | none =>
    obtain ⟨i, rfl, h1⟩ := h
    have g : slotD ρ i = some d := g
    unfold slotD at g
    cases hi : ρ[i]? with
    | none => rw [hi] at g; cases g
    | some o =>
      rw [hi] at g
      cases o with
      | none => cases g
      | some p =>
        obtain ⟨b, d'⟩ := p
        have e : d' = d := Option.some.inj g
        subst e
        cases b with
        | false =>
          obtain ⟨w, h2, h3⟩ := r.frz i d' hi
          rw [h1] at h2; cases h2
          exact .inl h3
        | true =>
          obtain ⟨a, ds, xs, h2, h3, h4, _⟩ := r.own i _ hi
          rw [h1] at h2; cases h2
          exact .inr ⟨a, ds, xs, rfl, h3, h4⟩
end
def get2 (g : D → D → Option (Bool × D)) (a b : Option D) (ρ : En) : O (Bool × D × En) := match a, b with
  | some x, some y => match g x y with
    | some r => .ok (r.1, r.2, ρ)
    | none => .bad
  | _, _ => .bad
def op2 (g : D → D → Option (Bool × D)) (p q : Pk) : EF := fun ρ => (p.ev ρ).bind fun a => (q.ev a.2).bind fun b => get2 g (p.get a.1 b.2) (q.get b.1 b.2) b.2
def GS2 (c : Cc) (g : D → D → Option (Bool × D)) (r : R2) : Prop := ∀ (A : Addr → Prop) (H : Hp) (x y : V) (d1 d2 : D) (fr : Bool) (d : D) (Q : VK), RepT c A H x d1 → RepT c A H y d2 → g d1 d2 = some (fr, d) →
  (∀ v H', New c A H H' fr v d → Q v H') → r x y H Q
theorem get2_ok {g : D → D → Option (Bool × D)} {a b : Option D} {ρ : En} {p : Bool × D × En → Prop} {q : Str → D → En → Prop} (h : (get2 g a b ρ).sat p q) : ∃ x y fr d, a = some x ∧ b = some y ∧ g x y = some (fr, d) ∧ p (fr, d, ρ) := by
  unfold get2 at h
  cases a with
  | none => exact h.elim
  | some x =>
    cases b with
    | none => exact h.elim
    | some y =>
      dsimp only at h
      cases hg : g x y with
      | none => rw [hg] at h; exact h.elim
      | some r => rw [hg] at h; exact ⟨x, y, r.1, r.2, rfl, rfl, hg, h⟩
section
variable {X : Cx} {c : Cc} {E : XK} {e a b : Expr} {p q : Pk}
theorem lift_op2 {g : D → D → Option (Bool × D)} {r : R2} (hr : GS2 c g r) {σ : St} {H : Hp} {Q : VK} (h : liftE c E (op2 g p q) σ H Q) : tOp r (liftP c E p) (liftP c E q) σ H Q := by
  obtain ⟨ρ, Z, B, r0, h⟩ := h
  refine ⟨ρ, Z, B, r0, O.sat_then (o := p.ev ρ) h (fun a ha v1 H1 r1 pv1 => ?_) fun _ _ _ h => h⟩
  refine ⟨a.2, Z, hull σ a.2 H1, r1.strong, O.sat_then ha (fun b hb v2 H2 r2 pv2 => ?_) fun _ _ _ h => XW.weak r1.hull_le h⟩
  obtain ⟨x, y, fr, d, e1, e2, e3, fin⟩ := get2_ok hb
  refine hr (Av σ b.2 Z) H2 v1 v2 x y fr d Q ((pv1.keep r1 r2).fin r2 e1) (pv2.fin r2 e2) e3 fun v H' n => ?_
  obtain ⟨k1, k2⟩ := (r2.weak r1.hull_le).new n
  exact fin v H' k1 k2
theorem de_op2 {g : D → D → Option (Bool × D)} {r : R2} (hr : GS2 c g r) (ha : DP X c E a p) (hb : DP X c E b q) (mk : ∀ {ta tb : TE}, PE X a ta → PE X b tb → PE X e (tOp r ta tb)) : DE X c E e (op2 g p q) :=
  ⟨pe_imp (mk ha.pe hb.pe) fun _ _ _ h => lift_op2 hr h⟩
end
def op1 (g : D → Option (Bool × D)) (p : Pk) : EF := fun ρ => (p.ev ρ).bind fun a => match p.get a.1 a.2 with
  | some x => match g x with
    | some r => .ok (r.1, r.2, a.2)
    | none => .bad
  | none => .bad
section
variable {X : Cx} {c : Cc} {E : XK} {e a b : Expr} {p q : Pk}
end
def Pk.evs : List Pk → En → O (List (Option D) × En)
  | [], ρ => .ok ([], ρ)
  | p :: ps, ρ => (p.ev ρ).bind fun a => (Pk.evs ps a.2).bind fun b => .ok (a.1 :: b.1, b.2)
def Pk.gets : List Pk → List (Option D) → En → Option (List D)
  | [], [], _ => some []
  | p :: ps, o :: os, ρ => match p.get o ρ, Pk.gets ps os ρ with
    | some d, some ds => some (d :: ds)
    | _, _ => none
  | _, _, _ => none
inductive PkVs (c : Cc) (σ : St) (H : Hp) (ρ : En) (Z : Addr → Prop) : List Pk → List (Option D) → List V → Prop
  | nil : PkVs c σ H ρ Z [] [] []
  | cons {p : Pk} {o : Option D} {v : V} {ps : List Pk} {os : List (Option D)} {vs : List V} : PkV c σ H ρ Z p o v → PkVs c σ H ρ Z ps os vs → PkVs c σ H ρ Z (p :: ps) (o :: os) (v :: vs)
inductive RepTs (c : Cc) (A : Addr → Prop) (H : Hp) : List V → List D → Prop
  | nil : RepTs c A H [] []
  | cons {v : V} {d : D} {vs : List V} {ds : List D} : RepT c A H v d → RepTs c A H vs ds → RepTs c A H (v :: vs) (d :: ds)
theorem PkVs.fin {c : Cc} {σ : St} {H : Hp} {ρ : En} {Z : Addr → Prop} {B : Hp} (r : R c σ H ρ Z B) : ∀ {ps : List Pk} {os : List (Option D)} {vs : List V} {ds : List D}, PkVs c σ H ρ Z ps os vs → Pk.gets ps os ρ = some ds → RepTs c (Av σ ρ Z) H vs ds
  | _, _, _, ds, .nil, e => by
    have e' : ([] : List D) = ds := Option.some.inj e
    subst e'
    exact .nil
  | p :: ps, o :: os, _, ds, .cons h t, e => by
    unfold Pk.gets at e
    cases h1 : p.get o ρ with
    | none => rw [h1] at e; cases e
    | some d =>
      cases h2 : Pk.gets ps os ρ with
      | none => rw [h1, h2] at e; cases e
      | some es =>
        rw [h1, h2] at e
        have e' : d :: es = ds := Option.some.inj e
        subst e'
        exact .cons (h.fin r h1) (PkVs.fin r t h2)
def liftPs (c : Cc) (E : XK) (ps : List Pk) : TA := fun σ H Q => ∃ ρ Z B, R c σ H ρ Z B ∧ (Pk.evs ps ρ).sat (fun r => ∀ vs H', R c σ H' r.2 Z B → PkVs c σ H' r.2 Z ps r.1 vs → Q vs H') (XW c E σ Z B)
structure DPs (X : Cx) (c : Cc) (E : XK) (es : List Expr) (ps : List Pk) : Prop where
  pa : PA X es (liftPs c E ps)
section
variable {X : Cx} {c : Cc} {E : XK} {e a b : Expr} {es : List Expr} {p q : Pk} {ps : List Pk}
theorem dps_nil : DPs X c E [] [] := ⟨pa_imp pa_nil fun σ H Q ⟨ρ, Z, B, R, q⟩ => q [] H R .nil⟩
theorem dps_cons (h : DP X c E e p) (t : DPs X c E es ps) (hs : starEach (e :: es) X.env = (false, eval e X.env) :: starEach es X.env := by rfl) : DPs X c E (e :: es) (p :: ps) := by
  refine ⟨pa_imp (pa_cons h.pe t.pa hs) fun σ H Q ⟨ρ, Z, B, r0, h⟩ => ?_⟩
  refine ⟨ρ, Z, B, r0, O.sat_then (o := p.ev ρ) h (fun a ha v1 H1 r1 pv1 => ?_) fun _ _ _ h => h⟩
  refine ⟨a.2, Z, hull σ a.2 H1, r1.strong, O.sat_then ha (fun b hb vs H2 r2 pv2 => ?_) fun _ _ _ h => XW.weak r1.hull_le h⟩
  exact hb (v1 :: vs) H2 (r2.weak r1.hull_le) (.cons (pv1.keep r1 r2) pv2)
end
def opN (g : List D → Option (Bool × D)) (ps : List Pk) : EF := fun ρ => (Pk.evs ps ρ).bind fun a => match Pk.gets ps a.1 a.2 with
  | some x => match g x with
    | some r => .ok (r.1, r.2, a.2)
    | none => .bad
  | none => .bad
def GSN (c : Cc) (g : List D → Option (Bool × D)) (r : List V → Hp → VK → Prop) : Prop := ∀ (A : Addr → Prop) (H : Hp) (xs : List V) (ds : List D) (fr : Bool) (d : D) (Q : VK), RepTs c A H xs ds → g ds = some (fr, d) →
  (∀ v H', New c A H H' fr v d → Q v H') → r xs H Q
section
variable {X : Cx} {c : Cc} {E : XK} {e a b : Expr} {es : List Expr} {p q : Pk} {ps : List Pk}
theorem de_opN {g : List D → Option (Bool × D)} {r : List V → Hp → VK → Prop} (hr : GSN c g r) (ha : DPs X c E es ps) (mk : ∀ {t : TA}, PA X es t → PE X e (tCB r t)) : DE X c E e (opN g ps) := by
  refine ⟨pe_imp (mk ha.pa) fun σ H Q ⟨ρ, Z, B, r0, h⟩ => ?_⟩
  refine ⟨ρ, Z, B, r0, O.sat_then (o := Pk.evs ps ρ) h (fun a ha v1 H1 r1 pv1 => ?_) fun _ _ _ h => h⟩
  cases e1 : Pk.gets ps a.1 a.2 with
  | none => rw [e1] at ha; exact ha.elim
  | some x =>
    rw [e1] at ha
    dsimp only at ha
    cases e3 : g x with
    | none => rw [e3] at ha; exact ha.elim
    | some w =>
      rw [e3] at ha
      refine hr (Av σ a.2 Z) H1 v1 x w.1 w.2 Q (pv1.fin r1 e1) e3 fun v H' n => ?_
      obtain ⟨k1, k2⟩ := r1.new n
      exact ha v H' k1 k2
end
def evA : List EF → En → O (List D × En)
  | [], ρ => .ok ([], ρ)
  | f :: fs, ρ => (f ρ).bind fun a => (evA fs a.2.2).bind fun b => .ok (a.2.1 :: b.1, b.2)
def liftA (c : Cc) (E : XK) (fs : List EF) : TA := fun σ H Q => ∃ ρ Z B, R c σ H ρ Z B ∧ (evA fs ρ).sat (fun r => ∀ vs H', R c σ H' r.2 Z B → RepL c (Av σ r.2 Z) H' vs r.1 → Q vs H') (XW c E σ Z B)
structure DA (X : Cx) (c : Cc) (E : XK) (es : List Expr) (fs : List EF) : Prop where
  pa : PA X es (liftA c E fs)
def fTup (fs : List EF) : EF := fun ρ => (evA fs ρ).bind fun a => if a.1.length ≤ 16777216 then .ok (false, .tup a.1, a.2) else .bad
def fLst (fs : List EF) : EF := fun ρ => (evA fs ρ).bind fun a => if a.1.length ≤ 16777216 then .ok (true, .lst a.1, a.2) else .bad
section
variable {X : Cx} {c : Cc} {E : XK} {e a b : Expr} {es : List Expr} {f : EF} {fs : List EF} {pos : Pos}
theorem da_nil : DA X c E [] [] := ⟨pa_imp pa_nil fun σ H Q ⟨ρ, Z, B, R, q⟩ => q [] H R .nil⟩
theorem da_cons (h : DE X c E e f) (t : DA X c E es fs) (hs : starEach (e :: es) X.env = (false, eval e X.env) :: starEach es X.env := by rfl) : DA X c E (e :: es) (f :: fs) := by
  refine ⟨pa_imp (pa_cons h.pe t.pa hs) fun σ H Q ⟨ρ, Z, B, r0, h⟩ => ?_⟩
  refine ⟨ρ, Z, B, r0, O.sat_then (o := f ρ) h (fun a ha v1 H1 r1 pv1 => ?_) fun _ _ _ h => h⟩
  refine ⟨a.2.2, Z, hull σ a.2.2 H1, r1.strong, O.sat_then ha (fun b hb vs H2 r2 pv2 => ?_) fun _ _ _ h => XW.weak r1.hull_le h⟩
  exact hb (v1 :: vs) H2 (r2.weak r1.hull_le) (.cons (r1.keepV r2 pv1.rep) pv2)
theorem same_new {H : Hp} {p : Addr} {o : HO} (h : H p = none) : Same H (upd H p o) := fun b x e => by rw [upd_ne (ne_of_none e h)]; exact e
theorem de_tup {k : Nat} (h : DA X c E es fs) : DE X c E (.Tuple es k pos) (fTup fs) := by
  refine ⟨pe_imp (pe_tup h.pa) fun σ H Q ⟨ρ, Z, B, r0, h⟩ => ?_⟩
  refine ⟨ρ, Z, B, r0, O.sat_then (o := evA fs ρ) h (fun a ha v1 H1 r1 pv1 => ?_) fun _ _ _ h => h⟩
  by_cases hl : a.1.length ≤ 16777216
  · rw [if_pos hl] at ha
    refine ⟨by rw [sizeLine_eq, pv1.len]; exact hl, fun p np => ?_⟩
    obtain ⟨k1, k2⟩ := r1.new (fr := false) (v := .ref p) (d := .tup a.1) (H' := upd H1 p (.tup v1)) ⟨same_new np, .tup (.inl (.inl upd_same)) (RepL.same (same_new np) pv1)⟩
    exact ha _ _ k1 k2
  · rw [if_neg hl] at ha; exact ha.elim
theorem de_lst (h : DA X c E es fs) : DE X c E (.List es pos) (fLst fs) := by
  refine ⟨pe_imp (pe_lst h.pa) fun σ H Q ⟨ρ, Z, B, r0, h⟩ => ?_⟩
  refine ⟨ρ, Z, B, r0, O.sat_then (o := evA fs ρ) h (fun a ha v1 H1 r1 pv1 => ?_) fun _ _ _ h => h⟩
  by_cases hl : a.1.length ≤ 16777216
  · rw [if_pos hl] at ha
    refine ⟨by rw [sizeLine_eq, pv1.len]; exact hl, fun p np => ?_⟩
    obtain ⟨k1, k2⟩ := r1.new (fr := true) (v := .ref p) (d := .lst a.1) (H' := upd H1 p (.lst v1)) ⟨same_new np, p, a.1, v1, rfl, np, .lst upd_same, pv1⟩
    exact ha _ _ k1 k2
  · rw [if_neg hl] at ha; exact ha.elim
end
end U
namespace U
set_option autoImplicit false
open PySem PySem.Spec PyProof.Rows L2
section
variable {c : Cc} {σ : St} {H H' : Hp} {ρ : En} {Z : Addr → Prop} {B : Hp} {fr : Bool} {v : V} {d : D}
theorem own_same {i : Nat} {d d' : D} (h : ρ[i]? = some (some (true, d))) {a : Addr} : Own σ (ρ.set i (some (true, d'))) a ↔ Own σ ρ a := by
  have hi : i < ρ.length := by
    by_cases k : i < ρ.length
    · exact k
    · rw [List.getElem?_eq_none (by omega)] at h; cases h
  constructor
  · rintro ⟨j, e, h1, h2⟩
    rcases set_get h1 with ⟨e1, e2⟩ | ⟨_, e2⟩
    · subst e1; exact ⟨i, d, h, h2⟩
    · exact ⟨j, e, e2, h2⟩
  · rintro ⟨j, e, h1, h2⟩
    by_cases k : i = j
    · subst k; exact ⟨i, d', by rw [List.getElem?_set_self hi], h2⟩
    · exact ⟨j, e, by rw [List.getElem?_set_ne k]; exact h1, h2⟩
theorem R.change (r : R c σ H ρ Z B) {i : Nat} {a : Addr} {d' : D} {xs : List V} {ds : List D} (h : ρ[i]? = some (some (true, d))) (hs : σ[i]? = some (some (.ref a))) (k : But (· = a) H H') (ha : Cell c H' a d' xs ds)
    (hr : RepL c (Av σ ρ Z) H' xs ds) : R c σ H' (ρ.set i (some (true, d'))) Z B := by
  have oi : Own σ ρ a := ⟨i, d, h, hs⟩
  have av : ∀ b, Av σ (ρ.set i (some (true, d'))) Z b → Av σ ρ Z b := fun b z => z.imp id (own_same h).mp
  have kw : ∀ b, b = a → ∃ u, H b = some u ∧ Cl u := fun b z => by subst z; exact r.ownL oi
  refine ⟨by rw [List.length_set]; exact r.len, fun j d2 e => ?_, fun j d2 e => ?_, fun j l dj dl b e1 e2 s1 s2 => ?_, fun b o e => ?_, fun b z e => ?_⟩
  · rcases set_get e with ⟨_, e2⟩ | ⟨_, e⟩
    · cases e2
    · obtain ⟨v, h1, h2⟩ := r.frz j d2 e
      exact ⟨v, h1, (Rep.but k kw (fun b z => by subst z; exact .inr oi) h2).avoid fun a z => .inl (av a z)⟩
  · rcases set_get e with ⟨e1, e2⟩ | ⟨ne, e⟩
    · cases e2; subst e1
      exact ⟨a, ds, xs, hs, ha, hr.avoid fun b z => .inl (av b z), (r.ownB oi).2, (r.ownB oi).1⟩
    · obtain ⟨a2, ds2, xs2, h2, h3, h4, h5, h6⟩ := r.own j d2 e
      have na : a2 ≠ a := fun z => by subst z; exact ne (r.excl i j _ _ _ h e hs h2)
      exact ⟨a2, ds2, xs2, h2, h3.move fun _ q => k _ _ na q, (RepL.but k kw (fun b z => by subst z; exact .inr oi) h4).avoid fun a z => .inl (av a z), h5, h6⟩
  · have back : ∀ (j : Nat) (dj : D), (ρ.set i (some (true, d')))[j]? = some (some (true, dj)) → ∃ dj', ρ[j]? = some (some (true, dj')) := fun j dj e => by
      rcases set_get e with ⟨e1, _⟩ | ⟨_, e⟩
      · subst e1; exact ⟨d, h⟩
      · exact ⟨dj, e⟩
    obtain ⟨d1, e1⟩ := back j dj e1
    obtain ⟨d2, e2⟩ := back l dl e2
    exact r.excl j l d1 d2 b e1 e2 s1 s2
  · refine k b o (fun z => ?_) (r.base b o e)
    subst z
    rw [(r.ownB oi).1] at e; cases e
  · cases q : H b with
    | none => exact r.zd b z q
    | some o =>
      have nb : b ≠ a := fun z' => by subst z'; exact (r.ownB oi).2 z
      rw [k b o nb q] at e; cases e
theorem R.assign (r : R c σ H ρ Z B) (hv : Val c σ H ρ Z B fr v d) (i : Nat) : R c (σ.set i (some v)) H (ρ.set i (some (fr, d))) Z B := by
  rcases Nat.lt_or_ge i ρ.length with hi | hi
  case inr =>
    rw [List.set_eq_of_length_le hi, List.set_eq_of_length_le (by rw [r.len]; exact hi)]
    exact r
  have hiσ : i < σ.length := by rw [r.len]; exact hi
  cases fr with
  | false =>
    have hv : Rep c (Av σ ρ Z) H v d := hv
    have ow : ∀ b, Own (σ.set i (some v)) (ρ.set i (some (false, d))) b → Own σ ρ b := fun b ⟨j, e, h1, h2⟩ => by
      rcases set_get h1 with ⟨_, e2⟩ | ⟨ne, e2⟩
      · cases e2
      · rw [List.getElem?_set_ne ne] at h2; exact ⟨j, e, e2, h2⟩
    have av : ∀ b, Av (σ.set i (some v)) (ρ.set i (some (false, d))) Z b → Av σ ρ Z b := fun b z => z.imp id (ow b)
    refine ⟨by simp [r.len], fun j d' e => ?_, fun j d' e => ?_, fun j l dj dl b e1 e2 s1 s2 => ?_, r.base, r.zd⟩
    · rcases set_get e with ⟨e1, e2⟩ | ⟨ne, e⟩
      · cases e2; subst e1
        exact ⟨v, by rw [List.getElem?_set_self hiσ], hv.avoid fun b z => .inl (av b z)⟩
      · obtain ⟨u, h1, h2⟩ := r.frz j d' e
        exact ⟨u, by rw [List.getElem?_set_ne ne]; exact h1, h2.avoid fun b z => .inl (av b z)⟩
    · rcases set_get e with ⟨e1, e2⟩ | ⟨ne, e⟩
      · cases e2
      · obtain ⟨a, ds, xs, h2, h3, h4, h5, h6⟩ := r.own j d' e
        exact ⟨a, ds, xs, by rw [List.getElem?_set_ne ne]; exact h2, h3, h4.avoid fun b z => .inl (av b z), h5, h6⟩
    · rcases set_get e1 with ⟨_, e⟩ | ⟨n1, e1⟩
      · cases e
      · rcases set_get e2 with ⟨_, e⟩ | ⟨n2, e2⟩
        · cases e
        · rw [List.getElem?_set_ne n1] at s1
          rw [List.getElem?_set_ne n2] at s2
          exact r.excl j l dj dl b e1 e2 s1 s2
  | true =>
    obtain ⟨a, ds, xs, rfl, h3, h4, h5, h6, h7, r2⟩ := hv
    have ow : ∀ b, Own (σ.set i (some (.ref a))) (ρ.set i (some (true, d))) b → b = a ∨ Own σ ρ b := fun b ⟨j, e, k1, k2⟩ => by
      rcases set_get k1 with ⟨e1, e2⟩ | ⟨ne, e2⟩
      · subst e1
        rw [List.getElem?_set_self hiσ] at k2
        cases k2; exact .inl rfl
      · rw [List.getElem?_set_ne ne] at k2; exact .inr ⟨j, e, e2, k2⟩
    have av : ∀ b, Av (σ.set i (some (.ref a))) (ρ.set i (some (true, d))) Z b → Av σ ρ (fun b => Z b ∨ b = a) b := fun b z => by
      rcases z with z | z
      · exact .inl (.inl z)
      · rcases ow b z with z | z
        · exact .inl (.inr z)
        · exact .inr z
    refine ⟨by simp [r.len], fun j d' e => ?_, fun j d' e => ?_, fun j l dj dl b e1 e2 s1 s2 => ?_, r.base, r.zd⟩
    · rcases set_get e with ⟨e1, e2⟩ | ⟨ne, e⟩
      · cases e2
      · obtain ⟨u, k1, k2⟩ := r2.frz j d' e
        exact ⟨u, by rw [List.getElem?_set_ne ne]; exact k1, k2.avoid fun b z => .inl (av b z)⟩
    · rcases set_get e with ⟨e1, e2⟩ | ⟨ne, e⟩
      · cases e2; subst e1
        exact ⟨a, ds, xs, by rw [List.getElem?_set_self hiσ], h3, h4.avoid fun b z => .inl (av b z), h5, h7⟩
      · obtain ⟨b, es, ys, k2, k3, k4, k5, k6⟩ := r2.own j d' e
        exact ⟨b, es, ys, by rw [List.getElem?_set_ne ne]; exact k2, k3, k4.avoid fun b z => .inl (av b z), fun z => k5 (.inl z), k6⟩
    · have key : ∀ (j : Nat) (dj : D), i ≠ j → ρ[j]? = some (some (true, dj)) → (σ.set i (some (.ref a)))[j]? = some (some (.ref b)) → b ≠ a := fun j dj n e s z => by
        rw [List.getElem?_set_ne n] at s
        subst z
        exact h6 ⟨j, dj, e, s⟩
      rcases set_get e1 with ⟨q1, _⟩ | ⟨n1, e1⟩
      · rcases set_get e2 with ⟨q2, _⟩ | ⟨n2, e2⟩
        · rw [← q1, ← q2]
        · subst q1
          rw [List.getElem?_set_self hiσ] at s1
          cases s1
          exact absurd rfl (key l dl n2 e2 s2)
      · rcases set_get e2 with ⟨q2, _⟩ | ⟨n2, e2⟩
        · subst q2
          rw [List.getElem?_set_self hiσ] at s2
          cases s2
          exact absurd rfl (key j dj n1 e1 s1)
        · rw [List.getElem?_set_ne n1] at s1
          rw [List.getElem?_set_ne n2] at s2
          exact r.excl j l dj dl b e1 e2 s1 s2
end
abbrev FD := List D → O (Bool × D × List D)
def NewC (c : Cc) (A : Addr → Prop) (H H' : Hp) : Bool → V → D → Prop
  | true, v, d => ∃ (a : Addr) (ds : List D) (xs : List V), v = .ref a ∧ H a = none ∧ Cell c H' a d xs ds ∧ RepL c (fun b => A b ∨ b = a) H' xs ds
  | false, v, d => Rep c A H' v d
def spOf (c : Cc) : Bool → FD → Sp
  | false, g => fun vs H Q E => ∃ (ds : List D) (Z : Addr → Prop), (∀ b, Z b → H b ≠ none) ∧ RepL c Z H vs ds ∧
      (g ds).sat (fun r => ∀ v H', Same H H' → NewC c Z H H' r.1 v r.2.1 → Q v H') (fun k d _ => ∀ cls od H', Same H H' → XR c Z H' k d cls od → E cls od H')
  | true, g => fun vs H Q E => ∃ (a : Addr) (ws vs' : List V) (es ds' : List D) (Z : Addr → Prop), vs = .ref a :: vs' ∧ (∀ b, Z b → H b ≠ none) ∧ ¬ Z a ∧ H a = some (.lst ws) ∧
      RepL c (fun b => Z b ∨ b = a) H ws es ∧ RepL c (fun b => Z b ∨ b = a) H vs' ds' ∧
      (g (.lst es :: ds')).sat (fun r => ∀ v H' ws' es', But (· = a) H H' → r.2.2 = [.lst es'] → H' a = some (.lst ws') → RepL c (fun b => (Z b ∨ b = a) ∨ (r.1 = true ∧ v = .ref b)) H' ws' es' → NewC c (fun b => Z b ∨ b = a) H H' r.1 v r.2.1 → Q v H') (fun _ _ _ => False)
def Pk.isVar : Pk → Nat → Bool
  | .var i, j => i == j
  | .val _, _ => false
def frzAll : List Pk → En → En
  | [], ρ => ρ
  | .var i :: ps, ρ => frzAll ps (match ρ[i]? with
    | some (some (_, d)) => ρ.set i (some (false, d))
    | _ => ρ)
  | .val _ :: ps, ρ => frzAll ps ρ
def D.calm : D → Bool
  | .lst ds => D.immL ds
  | .dic ks vs => D.immL ks && D.immL vs
  | d => d.imm
def callRes (ps : List Pk) (ρ : En) : O (Bool × D × List D) → O (Bool × D × En)
  | .ok r => .ok (r.1, r.2.1, if (if r.1 then r.2.1.calm else r.2.1.imm) then ρ else frzAll ps ρ)
  | .ex k d _ => .ex k d (frzAll ps ρ)
  | .bad => .bad
def fCall (g : FD) (ps : List Pk) : EF := fun ρ => (Pk.evs ps ρ).bind fun a => match Pk.gets ps a.1 a.2 with
  | some ds => callRes ps a.2 (g ds)
  | none => .bad
def callResIO (i : Nat) (ps : List Pk) (ρ : En) : O (Bool × D × List D) → O (Bool × D × En)
  | .ok r => match r.2.2 with
    | [.lst es] => .ok (r.1, r.2.1, if (if r.1 then r.2.1.calm else r.2.1.imm) && D.immL es then ρ.set i (some (true, .lst es)) else (frzAll ps ρ).set i (some (true, .lst es)))
    | _ => .bad
  | _ => .bad
def fCallIO (g : FD) (i : Nat) (ps : List Pk) : EF := fun ρ => match ρ[i]? with
  | some (some (true, _)) => (Pk.evs ps ρ).bind fun a => match Pk.gets ps a.1 a.2 with
    | some ds => match a.2[i]? with
      | some (some (true, .lst es0)) => if ps.all (fun p => !p.isVar i) then callResIO i ps a.2 (g (.lst es0 :: ds)) else .bad
      | _ => .bad
    | none => .bad
  | _ => .bad
section
variable {c : Cc} {σ : St} {H H' : Hp} {ρ : En} {Z : Addr → Prop} {B : Hp} {fr : Bool} {v : V} {d : D}
theorem frzPs : ∀ (ps : List Pk) (ρ : En), R c σ H ρ Z B → R c σ H (frzAll ps ρ) Z B
  | [], _, r => r
  | .val _ :: ps, ρ, r => frzPs ps ρ r
  | .var i :: ps, ρ, r => by
    unfold frzAll
    cases h : ρ[i]? with
    | none => exact frzPs ps ρ r
    | some o =>
      cases o with
      | none => exact frzPs ps ρ r
      | some p =>
        have r' := (r.frzAt h).1
        exact frzPs ps _ r'
theorem frz_get : ∀ (ps : List Pk) (ρ : En) (j : Nat) (b : Bool) (d : D), ρ[j]? = some (some (b, d)) → ∃ b', (frzAll ps ρ)[j]? = some (some (b', d)) ∧ (b = false → b' = false)
  | [], ρ, j, b, d, h => ⟨b, h, id⟩
  | .val _ :: ps, ρ, j, b, d, h => frz_get ps ρ j b d h
  | .var i :: ps, ρ, j, b, d, h => by
    unfold frzAll
    cases hi : ρ[i]? with
    | none => exact frz_get ps ρ j b d h
    | some o =>
      cases o with
      | none => exact frz_get ps ρ j b d h
      | some p =>
        obtain ⟨b', d'⟩ := p
        by_cases e : i = j
        · subst e
          rw [hi] at h; cases h
          have hl : i < ρ.length := by
            by_cases k : i < ρ.length
            · exact k
            · rw [List.getElem?_eq_none (by omega)] at hi; cases hi
          obtain ⟨b2, h1, h2⟩ := frz_get ps (ρ.set i (some (false, d))) i false d (by rw [List.getElem?_set_self hl])
          exact ⟨b2, h1, fun _ => h2 rfl⟩
        · exact frz_get ps _ j b d (by rw [List.getElem?_set_ne e]; exact h)
theorem frz_other : ∀ (ps : List Pk) (ρ : En) (j : Nat), ps.all (fun p => !p.isVar j) = true → (frzAll ps ρ)[j]? = ρ[j]?
  | [], ρ, j, _ => rfl
  | .val _ :: ps, ρ, j, h => by
    simp only [List.all_cons, Bool.and_eq_true] at h
    exact frz_other ps ρ j h.2
  | .var i :: ps, ρ, j, h => by
    simp only [List.all_cons, Bool.and_eq_true, Pk.isVar, Bool.not_eq_true', beq_eq_false_iff_ne] at h
    unfold frzAll
    rw [frz_other ps _ j h.2]
    split
    · rw [List.getElem?_set_ne h.1]
    · rfl
theorem frz_var : ∀ (ps : List Pk) (ρ : En) (j : Nat) (d : D), slotD ρ j = some d → (∃ p ∈ ps, p = Pk.var j) → (frzAll ps ρ)[j]? = some (some (false, d))
  | [], _, _, _, _, h => by obtain ⟨_, h, _⟩ := h; cases h
  | .val _ :: ps, ρ, j, d, hd, h => by
    obtain ⟨p, hp, e⟩ := h
    refine frz_var ps ρ j d hd ⟨p, ?_, e⟩
    rcases List.mem_cons.mp hp with q | q
    · rw [q] at e; cases e
    · exact q
  | .var i :: ps, ρ, j, d, hd, h => by
    have hd' : ∃ b, ρ[j]? = some (some (b, d)) := by
      unfold slotD at hd
      split at hd
      · rename_i b d' e; cases hd; exact ⟨b, e⟩
      · cases hd
    obtain ⟨b, hj⟩ := hd'
    by_cases e : i = j
    · subst e
      unfold frzAll
      rw [hj]
      have hl : i < ρ.length := by
        by_cases k : i < ρ.length
        · exact k
        · rw [List.getElem?_eq_none (by omega)] at hj; cases hj
      obtain ⟨b2, h1, h2⟩ := frz_get ps (ρ.set i (some (false, d))) i false d (by rw [List.getElem?_set_self hl])
      rw [h2 rfl] at h1
      exact h1
    · have rest : ∃ p ∈ ps, p = Pk.var j := by
        obtain ⟨p, hp, q⟩ := h
        rcases List.mem_cons.mp hp with z | z
        · rw [z] at q; cases q; exact absurd rfl e
        · exact ⟨p, z, q⟩
      unfold frzAll
      refine frz_var ps _ j d ?_ rest
      split
      · unfold slotD; rw [List.getElem?_set_ne e, hj]
      · exact hd
theorem frz_own : ∀ (ps : List Pk) (ρ : En) (a : Addr), Own σ (frzAll ps ρ) a → Own σ ρ a
  | [], _, _, h => h
  | .val _ :: ps, ρ, a, h => frz_own ps ρ a h
  | .var i :: ps, ρ, a, h => by
    unfold frzAll at h
    have h' := frz_own ps _ a h
    split at h'
    · exact own_frz (fun d e => by cases e) h'
    · exact h'
theorem PkVs.frz (r : R c σ H ρ Z B) : ∀ {qs ps : List Pk} {os : List (Option D)} {vs : List V} {ds : List D}, (∀ p ∈ qs, p ∈ ps) → PkVs c σ H ρ Z qs os vs → Pk.gets qs os ρ = some ds → RepL c (Av σ (frzAll ps ρ) Z) H vs ds
  | _, _, _, _, ds, _, .nil, e => by
    have e' : ([] : List D) = ds := Option.some.inj e
    subst e'
    exact .nil
  | p :: qs, ps, o :: os, _, ds, hm, .cons h t, e => by
    unfold Pk.gets at e
    cases h1 : p.get o ρ with
    | none => rw [h1] at e; cases e
    | some d =>
      cases h2 : Pk.gets qs os ρ with
      | none => rw [h1, h2] at e; cases e
      | some es =>
        rw [h1, h2] at e
        have e' : d :: es = ds := Option.some.inj e
        subst e'
        refine .cons ?_ (PkVs.frz r (fun p hp => hm p (List.mem_cons_of_mem _ hp)) t h2)
        cases o with
        | some d' =>
          have q : d' = d := Option.some.inj h1
          subst q
          exact Rep.avoid (fun a z => .inl (z.imp id (frz_own ps ρ a))) h
        | none =>
          obtain ⟨i, rfl, hi⟩ := h
          have q := frz_var ps ρ i d h1 ⟨_, hm _ List.mem_cons_self, rfl⟩
          obtain ⟨w, k1, k2⟩ := (frzPs ps ρ r).frz i d q
          rw [hi] at k1; cases k1
          exact k2
theorem immL_app : ∀ ds es : List D, D.immL (ds ++ es) = (D.immL ds && D.immL es)
  | [], es => by rw [List.nil_append]; show _ = (true && _); rw [Bool.true_and]
  | d :: ds, es => by
    show (d.imm && D.immL (ds ++ es)) = ((d.imm && D.immL ds) && _)
    rw [immL_app ds es, Bool.and_assoc]
theorem calm_rep {H0 : Hp} {d : D} {A A' : Addr → Prop} {a : Addr} {ds : List D} {xs : List V} (e : d.calm = true) (hd : Cell c H0 a d xs ds) (h : RepL c A H xs ds) : RepL c A' H xs ds := by
  cases hd with
  | lst _ => exact RepL.immA e h
  | dicK _ _ => exact RepL.immA (Bool.and_eq_true_iff.mp e).2 h
  | dicT _ _ _ => exact RepL.immA (by rw [immL_app]; exact e) h
end
section
variable {X : Cx} {c : Cc} {E : XK} {CX : CXT} {k : Nat} {f : Addr} {fd : FuncData} {qs : List Str} {x : Str} {p pos : Pos} {e : Expr} {es : List Expr} {ps : List Pk} {dvs : List V} {ds : List Value} {g : FD} {dds : List D}
def DV (c : Cc) (dvs : List V) (dds : List D) : Prop := ∀ A H, RepL c A H dvs dds
theorem dv_nil : DV c [] [] := fun _ _ => .nil
theorem R.called {σ : St} {H H' : Hp} {ρ : En} {Z : Addr → Prop} {B : Hp} {fr : Bool} {d : D} {v : V} (r : R c σ H ρ Z B) (ps : List Pk) (s : Same H H') (n : NewC c (Av σ (frzAll ps ρ) Z) H H' fr v d) :
    R c σ H' (if (if fr then d.calm else d.imm) then ρ else frzAll ps ρ) Z B ∧ Val c σ H' (if (if fr then d.calm else d.imm) then ρ else frzAll ps ρ) Z B fr v d := by
  have r2 := frzPs ps ρ r
  have main : ∀ ρ', R c σ H ρ' Z B → (∀ a, Av σ ρ' Z a → Av σ (frzAll ps ρ) Z a ∨ (if fr then d.calm else d.imm) = true) → R c σ H' ρ' Z B ∧ Val c σ H' ρ' Z B fr v d := fun ρ' r' hav => by
    refine ⟨r'.same s, ?_⟩
    cases fr with
    | false =>
      by_cases q : d.imm = true
      · exact Rep.immA q n
      · exact Rep.avoid (fun a z => .inl ((hav a z).resolve_right q)) n
    | true =>
      obtain ⟨a, ds, xs, rfl, h1, h2, h3⟩ := n
      have hRL : RepL c (Av σ ρ' fun b => Z b ∨ b = a) H' xs ds := by
        by_cases q : d.calm = true
        · exact calm_rep q h2 h3
        · refine RepL.avoid (fun b z => .inl ?_) h3
          rcases z with (z | z) | z
          · exact .inl ((hav b (.inl z)).resolve_right q)
          · exact .inr z
          · exact .inl ((hav b (.inr z)).resolve_right q)
      refine ⟨a, ds, xs, rfl, h2, hRL, fun z => r'.zd a z h1, fun z => ?_, ?_, r'.more s h1 h2.ne⟩
      · obtain ⟨ys, e, _⟩ := r'.ownL z
        rw [h1] at e; cases e
      · cases q : B a with
        | none => rfl
        | some o => have := r'.base a o q; rw [h1] at this; cases this
  by_cases q : (if fr then d.calm else d.imm) = true
  · rw [if_pos q]
    exact main ρ r fun _ _ => .inr q
  · rw [if_neg q]
    exact main (frzAll ps ρ) r2 fun _ z => .inl z
theorem lift_call {σ : St} {H : Hp} {Q : VK} (hdv : DV c dvs dds) (h : liftE c E (fCall (fun ds => g (ds ++ dds)) ps) σ H Q) : tCall (spOf c false g) dvs E (liftPs c E ps) σ H Q := by
  obtain ⟨ρ, Z, B, r0, h⟩ := h
  refine ⟨ρ, Z, B, r0, O.sat_then (o := Pk.evs ps ρ) h (fun a ha v1 H1 r1 pv1 => ?_) fun _ _ _ h => h⟩
  cases e1 : Pk.gets ps a.1 a.2 with
  | none => rw [e1] at ha; exact ha.elim
  | some ds =>
    rw [e1] at ha
    have ha : (callRes ps a.2 (g (ds ++ dds))).sat _ _ := ha
    have rf := frzPs ps a.2 r1
    refine ⟨ds ++ dds, Av σ (frzAll ps a.2) Z, fun b z => ?_, RepL.app (PkVs.frz r1 (fun _ h => h) pv1 e1) (hdv _ _), ?_⟩
    · rcases z with z | z
      · exact rf.zd b z
      · obtain ⟨ys, e, _⟩ := rf.ownL z
        rw [e]; exact fun z => nomatch z
    · cases hg : g (ds ++ dds) with
      | bad => rw [hg] at ha; exact ha.elim
      | ok r =>
        rw [hg] at ha
        intro v H' s n
        obtain ⟨k1, k2⟩ := r1.called ps s n
        exact ha v H' k1 k2
      | ex kk d ρ' =>
        rw [hg] at ha
        intro cls od H' s x
        exact ha cls od H' (rf.same s) x
end
end U
namespace U
set_option autoImplicit false
open PySem PySem.Spec PyProof.Rows L2
section
variable {X : Cx} {c : Cc} {E : XK} {CX : CXT} {k : Nat} {f : Addr} {fd : FuncData} {qs ks : List Str} {x : Str} {p pos : Pos} {e : Expr} {es : List Expr} {kws : List Keyword} {ps ps2 : List Pk} {dvs : List V} {ds : List Value} {g : FD} {dds : List D}
theorem de_call (hdv : DV c dvs dds) (F : FnOk X.prog X.w X.K X.mg X.base CX k f fd qs (spOf c false g)) (hr : Room k X.A) (hg : Gl X x) (hm : X.mg x = some (.ref f)) (hk : PySem.W.keepIn X.K (.ref f) = true) (hb : Binds X.K fd qs ds) (hd : Vals dvs ds) (hx : Passes CX X E)
    (ha : DPs X c E (e :: es) ps) (hdb : (x == ("__debug__" : Str)) = false := by decide) (he : starEach (e :: es) X.env = (false, eval e X.env) :: starEach es X.env := by rfl) (hpl : (backTo pos (starEach es X.env)).any (·.1) = false := by rfl) :
    DE X c E (.Call (.Name x p) (e :: es) [] pos) (fCall (fun ds => g (ds ++ dds)) ps) := ⟨pe_imp (pe_call F hr hg hm hk hb hd hx ha.pa hdb he hpl) fun _ _ _ h => lift_call hdv h⟩
theorem PkVs.keep {σ : L2.St} {H H' : Hp} {ρ ρ' : En} {Z : Addr → Prop} {B : Hp} (r : R c σ H ρ Z B) (r' : R c σ H' ρ' Z (hull σ ρ H)) : ∀ {ps : List Pk} {os : List (Option D)} {vs : List V}, PkVs c σ H ρ Z ps os vs → PkVs c σ H' ρ' Z ps os vs
  | _, _, _, .nil => .nil
  | _, _, _, .cons h t => .cons (h.keep r r') (PkVs.keep r r' t)
theorem PkVs.app {σ : L2.St} {H : Hp} {ρ : En} {Z : Addr → Prop} : ∀ {ps ps2 : List Pk} {os os2 : List (Option D)} {vs vs2 : List V}, PkVs c σ H ρ Z ps os vs → PkVs c σ H ρ Z ps2 os2 vs2 → PkVs c σ H ρ Z (ps ++ ps2) (os ++ os2) (vs ++ vs2)
  | _, _, _, _, _, _, .nil, h => h
  | _, _, _, _, _, _, .cons h t, h2 => .cons h (PkVs.app t h2)
theorem lift_callIO {i : Nat} {σ : L2.St} {H : Hp} {Q : VK} (h : liftE c E (fCallIO g i ps) σ H Q) : tCall (spOf c true g) [] E (tCons (tVar i) (liftPs c E ps)) σ H Q := by
  obtain ⟨ρ, Z, B, r0, h⟩ := h
  unfold fCallIO at h
  split at h
  case h_2 => exact h.elim
  rename_i d00 h0
  obtain ⟨a0, _, _, hs0, _⟩ := r0.own i d00 h0
  refine ⟨.ref a0, hs0, ρ, Z, B, r0, O.sat_then (o := Pk.evs ps ρ) h (fun a ha v1 H1 r1 pv1 => ?_) fun _ _ _ h => h⟩
  cases e1 : Pk.gets ps a.1 a.2 with
  | none => rw [e1] at ha; exact ha.elim
  | some ds =>
    rw [e1] at ha
    dsimp only at ha
    split at ha
    case h_2 => exact ha.elim
    rename_i es h1
    split at ha
    case isFalse => exact ha.elim
    rename_i hall
    obtain ⟨a1, es', ws, hs1, hC1, hR1, nz1, nB1⟩ := r1.own i _ h1
    obtain ⟨ee1, hH1⟩ := hC1.toL
    rw [ee1] at hR1
    rw [hs0] at hs1
    cases hs1
    have rf := frzPs ps a.2 r1
    have hfi : (frzAll ps a.2)[i]? = some (some (true, .lst es)) := by rw [frz_other ps a.2 i hall]; exact h1
    have oi : Own σ (frzAll ps a.2) a0 := ⟨i, _, hfi, hs0⟩
    obtain ⟨_, es', ws', hs2, hC2, hR2, _, _⟩ := rf.own i _ hfi
    obtain ⟨ee2, hH2⟩ := hC2.toL
    rw [ee2] at hR2
    rw [hs0] at hs2
    cases hs2
    rw [hH1] at hH2
    cases hH2
    have zz : ∀ b, ((Z b ∨ (Own σ (frzAll ps a.2) b ∧ b ≠ a0)) ∨ b = a0) ↔ Av σ (frzAll ps a.2) Z b := fun b => by
      constructor
      · rintro ((z | z) | z)
        · exact .inl z
        · exact .inr z.1
        · subst z; exact .inr oi
      · rintro (z | z)
        · exact .inl (.inl z)
        · by_cases q : b = a0
          · exact .inr q
          · exact .inl (.inr ⟨z, q⟩)
    show spOf c true g (.ref a0 :: v1 ++ []) H1 Q E
    rw [List.append_nil]
    refine ⟨a0, ws, v1, es, ds, fun b => Z b ∨ (Own σ (frzAll ps a.2) b ∧ b ≠ a0), rfl, fun b z => ?_, fun z => ?_, hH1, ?_, ?_, ?_⟩
    · rcases z with z | z
      · exact rf.zd b z
      · obtain ⟨ys, e, _⟩ := rf.ownL z.1
        rw [e]; exact fun z => nomatch z
    · rcases z with z | z
      · exact nz1 z
      · exact z.2 rfl
    · exact hR2.avoid fun b z => .inl ((zz b).mp z)
    · exact (PkVs.frz r1 (fun _ h => h) pv1 e1).avoid fun b z => .inl ((zz b).mp z)
    · cases hg : g (.lst es :: ds) with
      | bad => rw [hg] at ha; exact ha.elim
      | ex kk d ρ' => rw [hg] at ha; exact ha.elim
      | ok r =>
        rw [hg] at ha
        intro v H' ws2 es2 hbut hout hH' hRL hN
        obtain ⟨r1', r2', r3'⟩ := r
        dsimp only at hout
        subst hout
        have ha : (O.ok (r1', r2', if (if r1' then r2'.calm else r2'.imm) && D.immL es2 then a.2.set i (some (true, D.lst es2)) else (frzAll ps a.2).set i (some (true, D.lst es2)))).sat _ _ := ha
        -- the result, given the slots
        have fin : ∀ ρ2, R c σ H1 ρ2 Z B → ρ2[i]? = some (some (true, D.lst es)) → (RepL c (fun b => Av σ ρ2 Z b ∨ (r1' = true ∧ v = .ref b)) H' ws2 es2) → (∀ b, Own σ ρ2 b → Own σ (frzAll ps a.2) b ∨ ((if r1' then r2'.calm else r2'.imm) = true)) →
            R c σ H' (ρ2.set i (some (true, D.lst es2))) Z B ∧ Val c σ H' (ρ2.set i (some (true, D.lst es2))) Z B r1' v r2' := fun ρ2 rr hi hrl hav => by
          have rc := rr.change hi hs0 hbut (.lst hH') (hrl.avoid fun b z => .inl (.inl z))
          refine ⟨rc, ?_⟩
          have os : ∀ b, Own σ (ρ2.set i (some (true, D.lst es2))) b ↔ Own σ ρ2 b := fun b => own_same hi
          cases r1' with
          | false =>
            by_cases q : r2'.imm = true
            · exact Rep.immA q hN
            · refine Rep.avoid (fun b z => .inl ((zz b).mpr ?_)) hN
              rcases z with z | z
              · exact .inl z
              · exact .inr ((hav b ((os b).mp z)).resolve_right q)
          | true =>
            obtain ⟨y, ds3, xs3, rfl, n1, n2, n3⟩ := hN
            have no : ¬ Own σ (ρ2.set i (some (true, D.lst es2))) y := fun z => by
              obtain ⟨ys, e, _⟩ := rr.ownL ((os y).mp z)
              rw [n1] at e; cases e
            refine ⟨y, ds3, xs3, rfl, n2, ?_, fun z => rr.zd y z n1, no, ?_, ?_⟩
            · by_cases q : r2'.calm = true
              · exact calm_rep q n2 n3
              · refine RepL.avoid (fun b z => .inl ?_) n3
                rcases z with (z | z) | z
                · exact .inl ((zz b).mpr (.inl z))
                · exact .inr z
                · exact .inl ((zz b).mpr (.inr ((hav b ((os b).mp z)).resolve_right q)))
            · cases q : B y with
              | none => rfl
              | some o => have := rr.base y o q; rw [n1] at this; cases this
            · have ya : y ≠ a0 := fun z => by rw [z, hH1] at n1; cases n1
              obtain ⟨uy, hy, _⟩ := n2.at
              have rm : R c σ (upd H1 y uy) ρ2 (fun b => Z b ∨ b = y) B := rr.more (same_new n1) n1 (by rw [upd_same]; exact fun z => nomatch z)
              refine rm.change hi hs0 (fun b o n e => ?_) (.lst hH') (hrl.avoid fun b z => .inl ?_)
              · by_cases q : b = y
                · subst q
                  rw [upd_same] at e
                  rw [← e]; exact hy
                · rw [upd_ne q] at e
                  exact hbut b o n e
              · rcases z with (z | z) | z
                · exact .inl (.inl z)
                · exact .inr ⟨rfl, by rw [z]⟩
                · exact .inl (.inr z)
        by_cases q : ((if r1' then r2'.calm else r2'.imm) && D.immL es2) = true
        · rw [if_pos q] at ha
          have q' := Bool.and_eq_true_iff.mp q
          obtain ⟨k1, k2⟩ := fin a.2 r1 h1 (RepL.immA q'.2 hRL) fun _ _ => .inr q'.1
          exact ha v H' k1 k2
        · rw [if_neg q] at ha
          obtain ⟨k1, k2⟩ := fin (frzAll ps a.2) rf hfi (hRL.avoid fun b z => .inl (z.imp (zz b).mpr id)) fun _ z => .inl z
          exact ha v H' k1 k2
theorem de_callIO {i : Nat} {o : Expr} (F : FnOk X.prog X.w X.K X.mg X.base CX k f fd qs (spOf c true g)) (hr : Room k X.A) (hg : Gl X x) (hm : X.mg x = some (.ref f)) (hk : PySem.W.keepIn X.K (.ref f) = true) (hb : Binds X.K fd qs []) (hx : Passes CX X E) (hv : PE X o (tVar i))
    (ha : DPs X c E es ps) (hs : starEach (o :: es) X.env = (false, eval o X.env) :: starEach es X.env := by rfl) (hdb : (x == ("__debug__" : Str)) = false := by decide) (hpl : (backTo pos (starEach es X.env)).any (·.1) = false := by rfl) :
    DE X c E (.Call (.Name x p) (o :: es) [] pos) (fCallIO g i ps) :=
  ⟨pe_imp (pe_call F hr hg hm hk hb .nil hx (pa_cons hv ha.pa hs) hdb hs hpl) fun _ _ _ h => lift_callIO h⟩
end
end U
namespace U
set_option autoImplicit false
open PySem PySem.Spec PyProof.Rows L2
inductive Fl where
  | nx | rt (fr : Bool) (d : D) | bk | ct
abbrev SF := En → O (Fl × En)
section
variable (c : Cc) (pr : Bool) (E : XK) (σ : St) (Z : Addr → Prop) (B : Hp) (T : Ends)
def SW : Fl × En → Prop := fun r => match r.1 with
  | .nx => ∀ σ' H', (pr = true → σ'[0]? = σ[0]?) → R c σ' H' r.2 Z B → T.nx σ' H'
  | .rt fr d => ∀ v σ' H', (pr = true → σ'[0]? = σ[0]?) → R c σ' H' r.2 Z B → Val c σ' H' r.2 Z B fr v d → T.rt v H'
  | .bk => ∀ σ' H', (pr = true → σ'[0]? = σ[0]?) → R c σ' H' r.2 Z B → T.bk σ' H'
  | .ct => ∀ σ' H', (pr = true → σ'[0]? = σ[0]?) → R c σ' H' r.2 Z B → T.ct σ' H'
def XWS : Str → D → En → Prop := fun k d ρ' => ∀ cls od σ' H', (pr = true → σ'[0]? = σ[0]?) → R c σ' H' ρ' Z B → XR c (Av σ' ρ' Z) H' k d cls od → E cls od H'
end
def liftS (c : Cc) (pr : Bool) (E : XK) (f : SF) : TS := fun T σ H => ∃ ρ Z B, R c σ H ρ Z B ∧ (f ρ).sat (SW c pr σ Z B T) (XWS c pr E σ Z B)
structure DS (X : Cx) (c : Cc) (pr : Bool) (E : XK) (st : Stmt) (f : SF) : Prop where
  ps : PS X st (liftS c pr E f)
structure DSs (X : Cx) (c : Cc) (pr : Bool) (E : XK) (st : List Stmt) (f : SF) : Prop where
  ps : PSs X st (liftS c pr E f)
section
variable {c : Cc} {pr : Bool} {E : XK} {σ σ1 : St} {Z : Addr → Prop} {B B' : Hp} {T : Ends}
theorem XWS.xw {k : Str} {d : D} {ρ : En} (h : XWS c pr E σ Z B k d ρ) : XW c E σ Z B k d ρ := fun cls od H' r x => h cls od σ H' (fun _ => rfl) r x
theorem SW.trans (e : pr = true → σ1[0]? = σ[0]?) {r : Fl × En} (h : SW c pr σ Z B T r) : SW c pr σ1 Z B T r := by
  obtain ⟨f, ρ⟩ := r
  cases f with
  | nx => exact fun σ' H' q => h σ' H' fun p => (q p).trans (e p)
  | rt fr d => exact fun v σ' H' q => h v σ' H' fun p => (q p).trans (e p)
  | bk => exact fun σ' H' q => h σ' H' fun p => (q p).trans (e p)
  | ct => exact fun σ' H' q => h σ' H' fun p => (q p).trans (e p)
theorem XWS.trans (e : pr = true → σ1[0]? = σ[0]?) {k : Str} {d : D} {ρ : En} (h : XWS c pr E σ Z B k d ρ) : XWS c pr E σ1 Z B k d ρ :=
  fun cls od σ' H' q => h cls od σ' H' fun p => (q p).trans (e p)
theorem Val.weak {H : Hp} {ρ : En} {fr : Bool} {v : V} {d : D} (hb : ∀ b o, B b = some o → B' b = some o) (h : Val c σ H ρ Z B' fr v d) : Val c σ H ρ Z B fr v d := by
  cases fr with
  | false => exact h
  | true =>
    obtain ⟨a, ds, xs, h1, h3, h4, h5, h6, h7, h8⟩ := h
    refine ⟨a, ds, xs, h1, h3, h4, h5, h6, ?_, h8.weak hb⟩
    cases q : B a with
    | none => rfl
    | some o => rw [hb a o q] at h7; cases h7
theorem SW.weak (hb : ∀ b o, B b = some o → B' b = some o) {r : Fl × En} (h : SW c pr σ Z B T r) : SW c pr σ Z B' T r := by
  obtain ⟨f, ρ⟩ := r
  cases f with
  | nx => exact fun σ' H' q R' => h σ' H' q (R'.weak hb)
  | rt fr d => exact fun v σ' H' q R' V' => h v σ' H' q (R'.weak hb) (V'.weak hb)
  | bk => exact fun σ' H' q R' => h σ' H' q (R'.weak hb)
  | ct => exact fun σ' H' q R' => h σ' H' q (R'.weak hb)
theorem XWS.weak (hb : ∀ b o, B b = some o → B' b = some o) {k : Str} {d : D} {ρ : En} (h : XWS c pr E σ Z B k d ρ) : XWS c pr E σ Z B' k d ρ :=
  fun cls od σ' H' q R' => h cls od σ' H' q (R'.weak hb)
theorem set_zero {σ : St} {i : Nat} {v : Option V} (h : i ≠ 0) : (σ.set i v)[0]? = σ[0]? := List.getElem?_set_ne h
end
def sNil : SF := fun ρ => .ok (.nx, ρ)
def sSeq (f g : SF) : SF := fun ρ => (f ρ).bind fun r => match r.1 with
  | .nx => g r.2
  | _ => .ok r
def sSet (i : Nat) (f : EF) : SF := fun ρ => (f ρ).bind fun r => .ok (.nx, r.2.2.set i (some (r.1, r.2.1)))
def sExp (f : EF) : SF := fun ρ => (f ρ).bind fun r => .ok (.nx, r.2.2)
def sRet (f : EF) : SF := fun ρ => (f ρ).bind fun r => .ok (.rt r.1 r.2.1, r.2.2)
abbrev TF := En → O (Bool × En)
def sIf (t : TF) (f g : SF) : SF := fun ρ => (t ρ).bind fun r => if r.1 = true then f r.2 else g r.2
def liftT (c : Cc) (E : XK) (f : TF) : TT := fun σ H Q => ∃ ρ Z B, R c σ H ρ Z B ∧ (f ρ).sat (fun r => ∀ H', R c σ H' r.2 Z B → Q r.1 H') (XW c E σ Z B)
structure DT (X : Cx) (c : Cc) (E : XK) (e : Expr) (f : TF) : Prop where
  pt : PT X e (liftT c E f)
section
variable {X : Cx} {c : Cc} {pr : Bool} {E : XK} {st : Stmt} {sts : List Stmt} {f g : SF} {e : Expr} {h : EF} {pos : Pos}
theorem ds_nil : DSs X c pr E [] sNil := ⟨pss_imp pss_nil fun T σ H ⟨ρ, Z, B, r, q⟩ => q σ H (fun _ => rfl) r⟩
theorem ds_seq (h1 : DS X c pr E st f) (h2 : DSs X c pr E sts g) : DSs X c pr E (st :: sts) (sSeq f g) := by
  refine ⟨pss_imp (pss_cons h1.ps h2.ps) fun T σ H ⟨ρ, Z, B, r0, q⟩ => ⟨ρ, Z, B, r0, O.sat_then (o := f ρ) q (fun r hr => ?_) fun _ _ _ h => h⟩⟩
  obtain ⟨fl, ρ1⟩ := r
  cases fl with
  | nx => exact fun σ' H' p R' => ⟨ρ1, Z, B, R', O.sat_mono hr (fun _ h => h.trans p) fun _ _ _ h => h.trans p⟩
  | rt fr d => exact hr
  | bk => exact hr
  | ct => exact hr
theorem ds_one (h1 : DS X c pr E st f) : DSs X c pr E [st] f := ⟨pss_one h1.ps⟩
theorem lift_set {i : Nat} (hp : pr = true → i ≠ 0) {T : Ends} {σ : St} {H : Hp} (q : liftS c pr E (sSet i h) T σ H) : tAsg (liftE c E h) (gName i) T σ H := by
  obtain ⟨ρ, Z, B, r0, q⟩ := q
  refine ⟨ρ, Z, B, r0, O.sat_then (o := h ρ) q (fun r hr v H' R' V' => ?_) fun _ _ _ h => h.xw⟩
  exact hr _ H' (fun p => set_zero (hp p)) (R'.assign V' i)
theorem ds_set {i : Nat} {x : Str} {pos' : Pos} (he : DE X c E e h) (hN : X.N.Nodup) (hi : X.N[i]? = some x) (hx : Loc X.env.scope x) (hp : pr = true → i ≠ 0) (hs : swapsWith e (some (.Name x pos')) pos.line X.env = pure false := by rfl)
    (hf : X.fn x = true ∨ X.env.scope.names.lookup x = some .local := by first | exact .inl rfl | exact .inr rfl | assumption) : DS X c pr E (.Assign [.Name x pos'] e pos) (sSet i h) :=
  ⟨ps_imp (ps_set hN hi hx he.pe hs hf) fun _ _ _ q => lift_set hp q⟩
theorem ds_expr (he : DE X c E e h) (hs : swapsWith e none pos.line X.env = pure false := by rfl) : DS X c pr E (.Expr e pos) (sExp h) := by
  refine ⟨ps_imp (ps_expr he.pe hs) fun T σ H ⟨ρ, Z, B, r0, q⟩ => ⟨ρ, Z, B, r0, O.sat_then (o := h ρ) q (fun r hr v H' R' V' => ?_) fun _ _ _ h => h.xw⟩⟩
  exact hr σ H' (fun _ => rfl) R'
theorem ds_ret (he : DE X c E e h) : DS X c pr E (.Return (some e) pos) (sRet h) := by
  refine ⟨ps_imp (ps_ret he.pe) fun T σ H ⟨ρ, Z, B, r0, q⟩ => ⟨ρ, Z, B, r0, O.sat_then (o := h ρ) q (fun r hr v H' R' V' => ?_) fun _ _ _ h => h.xw⟩⟩
  exact hr v σ H' (fun _ => rfl) R' V'
theorem ds_if {t : TF} {s1 s2 : List Stmt} (ht : DT X c E e t) (h1 : DSs X c pr E s1 f) (h2 : DSs X c pr E s2 g) : DS X c pr E (.If e s1 s2 pos) (sIf t f g) := by
  refine ⟨ps_imp (ps_if ht.pt h1.ps h2.ps) fun T σ H ⟨ρ, Z, B, r0, q⟩ => ⟨ρ, Z, B, r0, O.sat_then (o := t ρ) q (fun r hr H' R' => ?_) fun _ _ _ h => h.xw⟩⟩
  obtain ⟨b, ρ1⟩ := r
  cases b with
  | true => rw [if_pos rfl]; exact ⟨ρ1, Z, B, R', hr⟩
  | false => rw [if_neg Bool.false_ne_true]; exact ⟨ρ1, Z, B, R', hr⟩
end
def tOf (p : Pk) : TF := fun ρ => (p.ev ρ).bind fun a => match p.get a.1 a.2 with
  | some (.bl b) => .ok (b, a.2)
  | _ => .bad
def tOp2 (g : D → D → Option Bool) (p q : Pk) : TF := fun ρ => (p.ev ρ).bind fun a => (q.ev a.2).bind fun b => match p.get a.1 b.2, q.get b.1 b.2 with
  | some x, some y => match g x y with
    | some k => .ok (k, b.2)
    | none => .bad
  | _, _ => .bad
def tNo (t : TF) : TF := fun ρ => (t ρ).bind fun r => .ok (!r.1, r.2)
def tOr' (t u : TF) : TF := fun ρ => (t ρ).bind fun r => if r.1 = true then .ok (true, r.2) else u r.2
def blO (g : D → D → Option Bool) : D → D → Option (Bool × D) := fun x y => (g x y).map fun b => (false, .bl b)
def fIf (t : TF) (f g : EF) : EF := fun ρ => (t ρ).bind fun r => if r.1 = true then f r.2 else g r.2
structure DW (X : Cx) (c : Cc) (E : XK) (e : Expr) (f : TF) : Prop where
  pw : PW X e (liftT c E f)
section
variable {X : Cx} {c : Cc} {E : XK} {e a b : Expr} {rest : List Expr} {t u : TF} {p q : Pk} {pos : Pos}
theorem val_bl {σ : St} {H : Hp} {ρ : En} {Z : Addr → Prop} {B : Hp} {v : V} {k : Bool} (h : Val c σ H ρ Z B false v (.bl k)) : v = .bl k := by
  have h : Rep c (Av σ ρ Z) H v (.bl k) := h
  cases h
  rfl
theorem repT_bl {A : Addr → Prop} {H : Hp} {v : V} {k : Bool} (h : RepT c A H v (.bl k)) : v = .bl k := by
  rcases h with h | ⟨_, _, _, _, e, _⟩
  · cases h; rfl
  · cases e
theorem dt_of (h : DP X c E e p) (he : ∀ whole, isTrue e X.env whole = (do let v ← whole; standAt e.pos; holding [v] (truthy v)) := by intro _; rfl) : DT X c E e (tOf p) := by
  refine ⟨pt_imp (pt_val h.pe he) fun σ H Q ⟨ρ, Z, B, r0, q⟩ => ⟨ρ, Z, B, r0, O.sat_then (o := p.ev ρ) q (fun r hr v H' R' V' => ?_) fun _ _ _ h => h⟩⟩
  split at hr
  case h_2 => exact hr.elim
  rename_i k e1
  have e2 := repT_bl (V'.fin R' e1)
  subst e2
  exact ⟨k, rfl, hr H' R'⟩
theorem lift_t2 {g : D → D → Option Bool} {r : R2} (hr : GS2 c (blO g) r) {σ : St} {H : Hp} {Q : Bool → Hp → Prop} (h : liftT c E (tOp2 g p q) σ H Q) : tTest (tOp r (liftP c E p) (liftP c E q)) σ H Q := by
  refine lift_op2 (E := E) hr ?_
  obtain ⟨ρ, Z, B, r0, h⟩ := h
  refine ⟨ρ, Z, B, r0, ?_⟩
  unfold tOp2 at h
  unfold op2
  cases e1 : p.ev ρ with
  | bad => rw [e1] at h; exact h
  | ex k d ρ' => rw [e1] at h; exact h
  | ok a =>
    rw [e1] at h
    have h : ((q.ev a.2).bind _).sat _ _ := h
    show ((q.ev a.2).bind _).sat _ _
    cases e2 : q.ev a.2 with
    | bad => rw [e2] at h; exact h
    | ex k d ρ' => rw [e2] at h; exact h
    | ok b =>
      rw [e2] at h
      have h : O.sat _ _ (match p.get a.1 b.2, q.get b.1 b.2 with
        | some x, some y => match g x y with
          | some k => O.ok (k, b.2)
          | none => .bad
        | _, _ => .bad) := h
      show (get2 (blO g) (p.get a.1 b.2) (q.get b.1 b.2) b.2).sat _ _
      unfold get2 blO
      cases hx : p.get a.1 b.2 with
      | none => rw [hx] at h; exact h
      | some x =>
        rw [hx] at h
        cases hy : q.get b.1 b.2 with
        | none => rw [hy] at h; exact h
        | some y =>
          rw [hy] at h
          dsimp only at h ⊢
          cases hg : g x y with
          | none => rw [hg] at h; exact h
          | some k => rw [hg] at h; exact fun v H' R' V' => ⟨k, val_bl V', h H' R'⟩
theorem dt_op2 {op : CmpOp} {g : D → D → Option Bool} {r : R2} (ho : OpR X (compareOp op) r) (hr : GS2 c (blO g) r) (ha : DP X c E a p) (hb : DP X c E b q) (hm : behindInMarks op b = false) : DT X c E (.Compare a [op] [b] pos) (tOp2 g p q) :=
  ⟨pt_imp (pt_cmpR ho ha.pe hb.pe hm) fun _ _ _ h => lift_t2 hr h⟩
theorem de_cmp {op : CmpOp} {g : D → D → Option Bool} {r : R2} (ho : OpR X (compareOp op) r) (hr : GS2 c (blO g) r) (ha : DP X c E a p) (hb : DP X c E b q) (hm : behindInMarks op b = false) : DE X c E (.Compare a [op] [b] pos) (op2 (blO g) p q) :=
  de_op2 hr ha hb fun h1 h2 => pe_cmpR ho h1 h2 hm
theorem dt_not (h : DT X c E a t) : DT X c E (.UnaryOp .Not a pos) (tNo t) := by
  refine ⟨pt_imp (pt_not h.pt) fun σ H Q ⟨ρ, Z, B, r0, q⟩ => ⟨ρ, Z, B, r0, O.sat_then (o := t ρ) q (fun r hr => hr) fun _ _ _ h => h⟩⟩
theorem dt_bool {op : BoolOp} {es : List Expr} (h : DW X c E (.BoolOp op es pos) t) : DT X c E (.BoolOp op es pos) t := ⟨h.pw.pt⟩
theorem dw_or1 (h : DT X c E a t) : DW X c E (.BoolOp .Or [a] pos) t := ⟨pw_or1 h.pt⟩
theorem dw_or (ha : DT X c E a t) (hb : DW X c E (.BoolOp .Or (b :: rest) pos) u) : DW X c E (.BoolOp .Or (a :: b :: rest) pos) (tOr' t u) := by
  refine ⟨pw_imp (pw_or ha.pt hb.pw) fun σ H Q ⟨ρ, Z, B, r0, q⟩ => ⟨ρ, Z, B, r0, O.sat_then (o := t ρ) q (fun r hr H' R' => ?_) fun _ _ _ h => h⟩⟩
  obtain ⟨k, ρ1⟩ := r
  cases k with
  | true => rw [if_pos rfl]; exact hr H' R'
  | false => rw [if_neg Bool.false_ne_true]; exact ⟨ρ1, Z, B, R', hr⟩
theorem de_if {f g : EF} (ht : DT X c E e t) (ha : DE X c E a f) (hb : DE X c E b g) : DE X c E (.IfExp e a b pos) (fIf t f g) := by
  refine ⟨pe_imp (pe_ifExp ht.pt ha.pe hb.pe) fun σ H Q ⟨ρ, Z, B, r0, q⟩ => ⟨ρ, Z, B, r0, O.sat_then (o := t ρ) q (fun r hr H' R' => ?_) fun _ _ _ h => h⟩⟩
  obtain ⟨k, ρ1⟩ := r
  cases k with
  | true => rw [if_pos rfl]; exact ⟨ρ1, Z, B, R', hr⟩
  | false => rw [if_neg Bool.false_ne_true]; exact ⟨ρ1, Z, B, R', hr⟩
def fAnd (p : Pk) (g : EF) : EF := fun ρ => (tOf p ρ).bind fun r => if r.1 = true then g r.2 else .ok (false, .bl false, r.2)
def fNot (p : Pk) : EF := fun ρ => (tOf p ρ).bind fun r => .ok (false, .bl (!r.1), r.2)
theorem de_one {op : BoolOp} {f : EF} (h : DE X c E a f) : DE X c E (.BoolOp op [a] pos) f := ⟨pe_one h.pe⟩
theorem sat_of {ρ : En} {k : Bool × En → O (Bool × D × En)} {P : Bool × D × En → Prop} {Qx : Str → D → En → Prop} (h : ((tOf p ρ).bind k).sat P Qx) : (p.ev ρ).sat (fun a => ∃ b, p.get a.1 a.2 = some (.bl b) ∧ (k (b, a.2)).sat P Qx) Qx := by
  unfold tOf at h
  cases e1 : p.ev ρ with
  | bad => rw [e1] at h; exact h
  | ex k d ρ' => rw [e1] at h; exact h
  | ok a =>
    rw [e1] at h
    have h : (O.bind (match p.get a.1 a.2 with
      | some (.bl b) => .ok (b, a.2)
      | _ => .bad) k).sat P Qx := h
    split at h
    case h_2 => exact h.elim
    rename_i b e
    exact ⟨b, e, h⟩
theorem de_and {g : EF} (ha : DP X c E a p) (hb : DE X c E (.BoolOp .And (b :: rest) pos) g) : DE X c E (.BoolOp .And (a :: b :: rest) pos) (fAnd p g) := by
  refine ⟨pe_imp (pe_and ha.pe hb.pe) fun σ H Q ⟨ρ, Z, B, r0, q⟩ => ⟨ρ, Z, B, r0, O.sat_mono (sat_of q) (fun r hr v H' R' V' => ?_) fun _ _ _ h => h⟩⟩
  obtain ⟨k, e1, hr⟩ := hr
  have e2 := repT_bl (V'.fin R' e1)
  subst e2
  refine ⟨k, rfl, ?_⟩
  cases k with
  | true => rw [if_pos rfl]; exact ⟨r.2, Z, B, R', hr⟩
  | false => rw [if_neg Bool.false_ne_true]; exact hr _ H' R' (.bl false)
theorem de_not (ha : DP X c E a p) : DE X c E (.UnaryOp .Not a pos) (fNot p) := by
  refine ⟨pe_imp (pe_not ha.pe) fun σ H Q ⟨ρ, Z, B, r0, q⟩ => ⟨ρ, Z, B, r0, O.sat_mono (sat_of q) (fun r hr v H' R' V' => ?_) fun _ _ _ h => h⟩⟩
  obtain ⟨k, e1, hr⟩ := hr
  have e2 := repT_bl (V'.fin R' e1)
  subst e2
  exact ⟨k, rfl, hr _ H' R' (.bl _)⟩
end
abbrev Tg := D → En → Option En
def Only (tv : List Nat) (σ σ' : St) : Prop := σ'.length = σ.length ∧ ∀ j, j ∉ tv → σ'[j]? = σ[j]?
def liftG (c : Cc) (tv : List Nat) (t : Tg) : TG := fun v σ H Q => ∃ ρ Z B d, R c σ H ρ Z B ∧ Rep c (Av σ ρ Z) H v d ∧ ∃ ρ', t d ρ = some ρ' ∧ ∀ σ' H', Only tv σ σ' → R c σ' H' ρ' Z B → (∀ b o, H b = some o → H' b = some o) → Q σ' H'
structure DG (X : Cx) (c : Cc) (tv : List Nat) (e : Expr) (t : Tg) : Prop where
  pg : PG X e (liftG c tv t)
def gN (i : Nat) : Tg := fun d ρ => some (ρ.set i (some (false, d)))
def gTs : List Tg → List D → En → Option En
  | [], [], ρ => some ρ
  | t :: ts, d :: ds, ρ => match t d ρ with
    | some ρ' => gTs ts ds ρ'
    | none => none
  | _, _, _ => none
def gT (ts : List Tg) : Tg := fun d ρ => match d with
  | .tup ds => gTs ts ds ρ
  | _ => none
inductive DGs (X : Cx) (c : Cc) : List Nat → List Expr → List Tg → Prop
  | nil : DGs X c [] [] []
  | cons {e : Expr} {t : Tg} {tv tw : List Nat} {es : List Expr} {ts : List Tg} : DG X c tv e t → (hs : (assignEach (e :: es) X.env).map (·.2) = assign e X.env :: (assignEach es X.env).map (·.2)) → DGs X c tw es ts → DGs X c (tv ++ tw) (e :: es) (t :: ts)
section
variable {X : Cx} {c : Cc} {E : XK} {e : Expr} {es : List Expr} {t : Tg} {ts : List Tg} {pos : Pos} {tv tw : List Nat}
theorem Only.trans {σ σ1 σ2 : St} (a : Only tv σ σ1) (b : Only tw σ1 σ2) : Only (tv ++ tw) σ σ2 := ⟨b.1.trans a.1, fun j h => (b.2 j fun z => h (List.mem_append_right _ z)).trans (a.2 j fun z => h (List.mem_append_left _ z))⟩
theorem dg_name {i : Nat} {x : Str} (hN : X.N.Nodup) (hi : X.N[i]? = some x) (hx : Loc X.env.scope x) (hf : X.fn x = true ∨ X.env.scope.names.lookup x = some .local := by first | exact .inl rfl | exact .inr rfl | assumption) :
    DG X c [i] (.Name x pos) (gN i) := by
  refine ⟨pg_imp (pg_name hN hi hx hf) fun v σ H Q ⟨ρ, Z, B, d, r0, rv, ρ', e, q⟩ => ?_⟩
  have e' : ρ.set i (some (false, d)) = ρ' := Option.some.inj e
  subst e'
  exact q _ H ⟨List.length_set, fun j h => List.getElem?_set_ne fun z => h (by rw [z]; exact List.mem_cons_self)⟩ (r0.assign (fr := false) rv i) fun _ _ h => h
theorem dgs_pgs : ∀ {tv : List Nat} {es : List Expr} {ts : List Tg}, DGs X c tv es ts → PGs X es (fun vs σ H Q => ∃ ρ Z B ds, R c σ H ρ Z B ∧ RepL c (Av σ ρ Z) H vs ds ∧ ∃ ρ', gTs ts ds ρ = some ρ' ∧ ∀ σ' H', Only tv σ σ' → R c σ' H' ρ' Z B → (∀ b o, H b = some o → H' b = some o) → Q σ' H') := by
  intro tv es ts h
  induction h with
  | nil =>
    refine ⟨fun pins s σ H vs us Q I r q => pgs_nil.run pins s σ H vs us Q I r ?_⟩
    obtain ⟨ρ, Z, B, ds, r0, rv, ρ', e, q⟩ := q
    cases rv with
    | nil =>
      have e' : ρ = ρ' := Option.some.inj e
      subst e'
      exact ⟨rfl, q σ H ⟨rfl, fun _ _ => rfl⟩ r0 fun _ _ h => h⟩
    | cons _ _ => cases e
  | cons h1 hs _ ih =>
    refine ⟨fun pins s σ H vs us Q I r q => (pgs_cons h1.pg ih hs).run pins s σ H vs us Q I r ?_⟩
    obtain ⟨ρ, Z, B, ds, r0, rv, ρ', e, q⟩ := q
    cases rv with
    | nil => cases e
    | @cons v vs d ds rv1 rv2 =>
      unfold gTs at e
      split at e
      case h_2 => cases e
      rename_i ρ1 e1
      refine ⟨v, vs, rfl, ρ, Z, hull σ ρ H, d, r0.strong, rv1, ρ1, e1, fun σ1 H1 p1 R1 k1 => ?_⟩
      refine ⟨ρ1, Z, B, ds, R1.weak r0.hull_le, r0.keepL' R1 (fun _ _ h => h) (fun _ => .inl) rv2, ρ', e, fun σ2 H2 p2 R2 k2 => ?_⟩
      exact q σ2 H2 (p1.trans p2) R2 fun b o h => k2 b o (k1 b o h)
theorem dg_tup {k n : Nat} (hK : X.K = c.K) (hc : X.calm = true) (h : DGs X c tv es ts) (hn : (assignEach es X.env).length = n := by rfl) (hl : ts.length = n := by rfl) (hst : (assignEach es X.env).findIdx? (·.1) = none := by rfl) : DG X c tv (.Tuple es k pos) (gT ts) := by
  refine ⟨pg_imp (pg_tup hc (dgs_pgs h) hn hst) fun v σ H Q ⟨ρ, Z, B, d, r0, rv, ρ', e, q⟩ => ?_⟩
  unfold gT at e
  split at e
  case h_2 => cases e
  rename_i ds
  cases rv with
  | @tup a xs ds h1 h2 =>
    refine ⟨a, xs, rfl, by rw [hK]; exact h1, ?_, ρ, Z, B, ds, r0, h2, ρ', e, q⟩
    have : ∀ (ts : List Tg) (ds : List D) (ρ ρ' : En), gTs ts ds ρ = some ρ' → ds.length = ts.length := by
      intro ts
      induction ts with
      | nil => intro ds ρ ρ' e; cases ds with
        | nil => rfl
        | cons _ _ => cases e
      | cons t ts ih => intro ds ρ ρ' e; cases ds with
        | nil => cases e
        | cons d ds =>
          unfold gTs at e
          cases e1 : t d ρ with
          | none => rw [e1] at e; cases e
          | some ρ1 => rw [e1] at e; simp [ih ds ρ1 ρ' e]
    rw [h2.len, this ts ds ρ ρ' e, hl]
end
section
variable {X : Cx} {c : Cc} {pr : Bool} {E : XK} {e tg : Expr} {t : Tg} {f : EF} {pos : Pos} {tv : List Nat}
end
def parF : List (Nat × EF) → En → O En
  | [], ρ => .ok ρ
  | (i, f) :: r, ρ => (f ρ).bind fun a => (parF r a.2.2).bind fun ρ2 => .ok (ρ2.set i (some (a.1, a.2.1)))
def sPar (r : List (Nat × EF)) : SF := fun ρ => (parF r ρ).bind fun ρ' => .ok (.nx, ρ')
def parT (c : Cc) (E : XK) : List (Nat × EF) → TA
  | [] => tNil
  | (_, f) :: r => tCons (liftE c E f) (parT c E r)
def storeP : St → List (Nat × EF) → List V → St
  | σ, (i, _) :: r, v :: vs => (storeP σ r vs).set i (some v)
  | σ, _, _ => σ
section
variable {X : Cx} {c : Cc} {pr : Bool} {E : XK} {pos : Pos}
theorem par_ok : ∀ (r : List (Nat × EF)) {σ : St} {H : Hp} {ρ : En} {Z : Addr → Prop} {B : Hp} {P : St → Hp → Prop}, R c σ H ρ Z B →
    (parF r ρ).sat (fun ρ' => ∀ σ' H', R c σ' H' ρ' Z B → P σ' H') (XW c E σ Z B) → parT c E r σ H fun vs H2 => vs.length = r.length ∧ P (storeP σ r vs) H2
  | [], σ, H, ρ, Z, B, P, r0, q => ⟨rfl, q σ H r0⟩
  | (i, f) :: r, σ, H, ρ, Z, B, P, r0, q => by
    refine ⟨ρ, Z, B, r0, O.sat_then (o := f ρ) q (fun a ha v H1 R1 V1 => ?_) fun _ _ _ h => h⟩
    obtain ⟨fr, d, ρ1⟩ := a
    have done : ∀ {P' : St → Hp → Prop}, parT c E r σ H1 (fun vs H2 => vs.length = r.length ∧ P' (storeP σ r vs) H2) → (∀ vs H2, P' (storeP σ r vs) H2 → P ((storeP σ r vs).set i (some v)) H2) →
        parT c E r σ H1 (fun vs H2 => (v :: vs).length = r.length + 1 ∧ P (storeP σ ((i, f) :: r) (v :: vs)) H2) := by
      intro P' h k
      have mono : ∀ (r : List (Nat × EF)) (σ : St) (H : Hp) (Q Q' : List V → Hp → Prop), (∀ vs H, Q vs H → Q' vs H) → parT c E r σ H Q → parT c E r σ H Q' := by
        intro r
        induction r with
        | nil => intro σ H Q Q' hq h; exact hq _ _ h
        | cons a r ih =>
          intro σ H Q Q' hq h
          obtain ⟨ρ, Z, B, r0, h⟩ := h
          exact ⟨ρ, Z, B, r0, O.sat_mono h (fun x hx v H' R' V' => ih σ H' _ _ (fun vs H q => hq _ _ q) (hx v H' R' V')) fun _ _ _ h => h⟩
      exact mono r σ H1 _ _ (fun vs H2 q => ⟨by simp [q.1], k vs H2 q.2⟩) h
    cases fr with
    | false =>
      refine done (P' := fun σ' H2 => P (σ'.set i (some v)) H2) (par_ok (P := fun σ' H2 => P (σ'.set i (some v)) H2) r R1.strong (O.sat_then ha (fun ρ2 h2 σ2 H2 R2 => ?_) fun _ _ _ h => XW.weak R1.hull_le h)) fun _ _ h => h
      exact h2 _ H2 ((R2.weak R1.hull_le).assign (fr := false) (R1.keepV' R2 (fun _ _ h => h) (fun _ => .inl) V1) i)
    | true =>
      obtain ⟨a, ds, xs, rfl, h3, h4, h5, h6, h7, r8⟩ := V1
      have hbb := r8.hull_le
      refine done (P' := fun σ' H2 => P (σ'.set i (some (.ref a))) H2) (par_ok (P := fun σ' H2 => P (σ'.set i (some (.ref a))) H2) r r8.strong (O.sat_then ha (fun ρ2 h2 σ2 H2 R2 => ?_) fun _ _ _ h => ?_)) fun _ _ h => h
      · refine h2 _ H2 (R.assign ((R2.weak hbb).less fun b z => .inl z) (fr := true) (v := .ref a) ?_ i)
        refine ⟨a, ds, xs, rfl, h3.move fun u e => R2.base a _ (by rw [hull_not h6]; exact e), r8.keepL' R2 (fun _ _ h => h) (fun _ => .inl) h4, h5, fun z => ?_, h7, R2.weak hbb⟩
        exact (R2.ownB z).2 (.inr rfl)
      · intro cls od H' R' x
        refine h cls od H' ((R'.weak hbb).less fun b z => .inl z) ?_
        obtain ⟨C, dd, v, k1, k2, k3, k4, k5⟩ := x
        exact ⟨C, dd, v, k1, k2, k3, k4, k5.avoid fun b z => .inl (z.imp .inl id)⟩
theorem storeP_zero : ∀ {r : List (Nat × EF)} {vs : List V} {σ : St}, (∀ p ∈ r, p.1 ≠ 0) → (storeP σ r vs)[0]? = σ[0]?
  | [], vs, σ, _ => by cases vs <;> rfl
  | (i, f) :: r, [], σ, _ => rfl
  | (i, f) :: r, v :: vs, σ, h => by
    show ((storeP σ r vs).set i (some v))[0]? = _
    rw [set_zero (h _ List.mem_cons_self)]
    exact storeP_zero fun p hp => h p (List.mem_cons_of_mem _ hp)
theorem sPar_sat {r : List (Nat × EF)} {T : Ends} {σ : St} {H : Hp} (hp : pr = true → ∀ p ∈ r, p.1 ≠ 0) (q : liftS c pr E (sPar r) T σ H) : parT c E r σ H fun vs H2 => vs.length = r.length ∧ T.nx (storeP σ r vs) H2 := by
  obtain ⟨ρ, Z, B, r0, q⟩ := q
  have h := par_ok r (P := fun σ' H2 => (pr = true → σ'[0]? = σ[0]?) → T.nx σ' H2) r0 (O.sat_then (o := parF r ρ) q (fun ρ' h σ' H' R' p => h σ' H' p R') fun _ _ _ h => h.xw)
  have mono : ∀ (r : List (Nat × EF)) (σ : St) (H : Hp) (Q Q' : List V → Hp → Prop), (∀ vs H, Q vs H → Q' vs H) → parT c E r σ H Q → parT c E r σ H Q' := by
    intro r
    induction r with
    | nil => intro σ H Q Q' hq h; exact hq _ _ h
    | cons a r ih =>
      intro σ H Q Q' hq h
      obtain ⟨ρ, Z, B, r0, h⟩ := h
      exact ⟨ρ, Z, B, r0, O.sat_mono h (fun x hx v H' R' V' => ih σ H' _ _ (fun vs H q => hq _ _ q) (hx v H' R' V')) fun _ _ _ h => h⟩
  exact mono r σ H _ _ (fun vs H2 q => ⟨q.1, q.2 fun p => storeP_zero (hp p)⟩) h
theorem ds_par2 {i j : Nat} {x y : Str} {a b : Expr} {f g : EF} {px py pt : Pos} {kt k2 : Nat} {pt2 : Pos} (hc : X.calm = true) (hN : X.N.Nodup) (hi : X.N[i]? = some x) (hj : X.N[j]? = some y) (hij : i ≠ j)
    (hx : X.env.scope.names.lookup x = some .local) (hy : X.env.scope.names.lookup y = some .local) (ha : DE X c E a f) (hb : DE X c E b g) (hp : pr = true → i ≠ 0 ∧ j ≠ 0)
    (hw : swappedStores [.Tuple [.Name x px, .Name y py] kt pt] (.Tuple [a, b] k2 pt2) X.env = pure (some [x, y]))
    (hs : swapsWithSole [.Tuple [.Name x px, .Name y py] kt pt] (.Tuple [a, b] k2 pt2) pos.line X.env = pure false := by rfl)
    (hs1 : starEach [a, b] X.env = (false, eval a X.env) :: starEach [b] X.env := by rfl) (hs2 : starEach [b] X.env = (false, eval b X.env) :: starEach [] X.env := by rfl) :
    DS X c pr E (.Assign [.Tuple [.Name x px, .Name y py] kt pt] (.Tuple [a, b] k2 pt2) pos) (sPar [(i, f), (j, g)]) := by
  refine ⟨ps_imp (ps_par hc hN hi hj hij hx hy (pa_cons ha.pe (pa_cons hb.pe pa_nil hs2) hs1) hw hs) fun T σ H q => ?_⟩
  have h := sPar_sat (fun p => fun p' hp' => by
    rcases List.mem_cons.mp hp' with e | hp'
    · rw [e]; exact (hp p).1
    · rw [List.mem_singleton.mp hp']; exact (hp p).2) q
  obtain ⟨ρ, Z, B, r0, h⟩ := h
  refine ⟨ρ, Z, B, r0, O.sat_mono h (fun x hx v H1 R1 V1 => ?_) fun _ _ _ h => h⟩
  obtain ⟨ρ1, Z1, B1, r1, h1⟩ := hx v H1 R1 V1
  refine ⟨ρ1, Z1, B1, r1, O.sat_mono h1 (fun x hx w H2 R2 V2 => ?_) fun _ _ _ h => h⟩
  have h3 := (hx w H2 R2 V2).2
  refine ⟨v, w, rfl, ?_⟩
  rw [List.set_comm _ _ hij]
  exact h3
end
end U
namespace U
set_option autoImplicit false
open PySem PySem.Spec PyProof.Rows L2
def IOk (c : Cc) (σ : St) (H : Hp) (ρ : En) (Z : Addr → Prop) (J : It) (ds : List D) : Prop := ∃ (G : Hp → Prop) (Y : Nat → Hp → V → Hp → Prop), Walk J ds.length G Y ∧
  (∀ H2, (∀ b o, hull σ ρ H b = some o → H2 b = some o) → G H2) ∧
  (∀ i H2 x H3, i < ds.length → (∀ b o, hull σ ρ H b = some o → H2 b = some o) → Y i H2 x H3 → Same H2 H3 ∧ ∃ d, ds[i]? = some d ∧ ∀ A2 : Addr → Prop, (∀ v d, Rep c (Av σ ρ Z) H v d → Rep c A2 H2 v d) → Rep c A2 H3 x d)
abbrev IF := En → O (List D × En)
def liftI (c : Cc) (E : XK) (f : IF) : TI := fun σ H Rr => ∃ ρ Z B, R c σ H ρ Z B ∧ (f ρ).sat (fun r => ∀ J H', R c σ H' r.2 Z B → IOk c σ H' r.2 Z J r.1 → Rr J H') (XW c E σ Z B)
structure DI (X : Cx) (c : Cc) (E : XK) (tg iter : Expr) (f : IF) : Prop where
  pi : PI X tg iter (liftI c E f)
theorem pi_imp {X : Cx} {tg iter : Expr} {w w' : TI} (h : PI X tg iter w) (k : ∀ σ H Rr, w' σ H Rr → w σ H Rr) : PI X tg iter w' := ⟨fun pins s σ H Rr I q => h.run pins s σ H Rr I (k σ H Rr q)⟩
theorem pi_or {X : Cx} {tg iter : Expr} {w w' : TI} (h : PI X tg iter w) (h' : PI X tg iter w') : PI X tg iter (fun σ H Rr => w σ H Rr ∨ w' σ H Rr) := ⟨fun pins s σ H Rr I q => by
  rcases q with q | q
  · exact h.run pins s σ H Rr I q
  · exact h'.run pins s σ H Rr I q⟩
def forL (t : Tg) (b : SF) : List D → En → O (Fl × En)
  | [], ρ => .ok (.nx, ρ)
  | d :: ds, ρ => match t d ρ with
    | none => .bad
    | some ρ1 => (b ρ1).bind fun r => match r.1 with
      | .nx => forL t b ds r.2
      | .ct => forL t b ds r.2
      | .bk => .ok (.nx, r.2)
      | .rt fr d => .ok (.rt fr d, r.2)
def sFor (fi : IF) (t : Tg) (b : SF) : SF := fun ρ => (fi ρ).bind fun r => forL t b r.1 r.2
section
variable {X : Cx} {c : Cc} {pr : Bool} {E : XK} {tg iter : Expr} {body : List Stmt} {fi : IF} {t : Tg} {b : SF} {pos : Pos} {tv : List Nat}
theorem ds_for (hp : PassesOwn (model X.prog X.w) X.A X.env X.xe) (hc : X.calm = true) (hi : DI X c E tg iter fi) (hg : DG X c tv tg t) (hpt : pr = true → 0 ∉ tv) (hb : DSs X c pr E body b)
    (hs : ∀ x, foldedSetIterable iter X.env x = pure x := by intro _; rfl) : DS X c pr E (.For tg iter body [] pos) (sFor fi t b) := by
  refine ⟨ps_imp (ps_for hp hc hi.pi hg.pg hb.ps hs) fun T σ H ⟨ρ, Z, B, r0, q⟩ => ⟨ρ, Z, B, r0, O.sat_then (o := fi ρ) q (fun a ha J H1 R1 io => ?_) fun _ _ _ h => h.xw⟩⟩
  obtain ⟨ds, ρ1⟩ := a
  obtain ⟨G, Y, wk, hG, hY⟩ := io
  refine for_it wk (fun i σ' H' => ∃ ρ', (pr = true → σ'[0]? = σ[0]?) ∧ R c σ' H' ρ' Z (hull σ ρ1 H1) ∧ (forL t b (ds.drop i) ρ').sat (SW c pr σ Z B T) (XWS c pr E σ Z B)) ?_ ?_ ?_ ?_
  · exact ⟨ρ1, fun _ => rfl, R1.strong, ha⟩
  · rintro i σ' H' _ ⟨ρ', _, R', _⟩
    exact hG H' R'.base
  · rintro i x σ2 H2 H3 hi ⟨ρ', p2, R2, q2⟩ y
    obtain ⟨s, d, hd, tr⟩ := hY i H2 x H3 hi R2.base y
    have hdrop : ds.drop i = d :: ds.drop (i + 1) := by
      have hlt : i < ds.length := hi
      rw [List.getElem?_eq_getElem hlt] at hd
      cases hd
      exact List.drop_eq_getElem_cons hlt
    rw [hdrop] at q2
    unfold forL at q2
    cases ht : t d ρ' with
    | none => rw [ht] at q2; exact q2.elim
    | some ρ2 =>
      rw [ht] at q2
      have R3 := R2.same s
      refine ⟨ρ', Z, hull σ ρ1 H1, d, R3, tr _ fun v d h => R1.keepV' R2 (fun _ _ h => h) (fun _ => .inl) h, ρ2, ht, fun σ4 H4 p4 R4 _ => ?_⟩
      have pp : pr = true → σ4[0]? = σ[0]? := fun p => (p4.2 0 (hpt p)).trans (p2 p)
      refine ⟨ρ2, Z, hull σ ρ1 H1, R4, O.sat_then (o := b ρ2) q2 (fun r hr => ?_) fun _ _ _ h => (h.trans pp).weak R1.hull_le⟩
      obtain ⟨fl, ρ3⟩ := r
      cases fl with
      | nx => exact fun σ5 H5 p5 R5 => ⟨ρ3, fun p => (p5 p).trans (pp p), R5, hr⟩
      | ct => exact fun σ5 H5 p5 R5 => ⟨ρ3, fun p => (p5 p).trans (pp p), R5, hr⟩
      | bk => exact fun σ5 H5 p5 R5 => hr σ5 H5 (fun p => (p5 p).trans (pp p)) (R5.weak R1.hull_le)
      | rt fr d => exact fun v σ5 H5 p5 R5 V5 => hr v σ5 H5 (fun p => (p5 p).trans (pp p)) (R5.weak R1.hull_le) (V5.weak R1.hull_le)
  · rintro σ' H' ⟨ρ', p', R', q'⟩
    rw [List.drop_length] at q'
    exact q' σ' H' p' (R'.weak R1.hull_le)
end
def whileL (t : TF) (b : SF) : Nat → En → O (Fl × En)
  | 0, _ => .bad
  | n + 1, ρ => (t ρ).bind fun r => if r.1 = true then (b r.2).bind fun s => match s.1 with
      | .nx => whileL t b n s.2
      | .ct => whileL t b n s.2
      | .bk => .ok (.nx, s.2)
      | .rt fr d => .ok (.rt fr d, s.2)
    else .ok (.nx, r.2)
def sWhile (n : Nat) (t : TF) (b : SF) : SF := whileL t b n
section
variable {X : Cx} {c : Cc} {pr : Bool} {E : XK} {e : Expr} {body : List Stmt} {t : TF} {b : SF} {pos : Pos}
theorem ds_while (n : Nat) (hp : PassesOwn (model X.prog X.w) X.A X.env X.xe) (ht : DT X c E e t) (hb : DSs X c pr E body b) : DS X c pr E (.While e body [] pos) (sWhile n t b) := by
  refine ⟨ps_imp (ps_while hp ht.pt hb.ps) fun T σ H ⟨ρ, Z, B, r0, q⟩ => ?_⟩
  refine ⟨fun m σ' H' => ∃ ρ', (pr = true → σ'[0]? = σ[0]?) ∧ R c σ' H' ρ' Z B ∧ (whileL t b m ρ').sat (SW c pr σ Z B T) (XWS c pr E σ Z B), ⟨n, ρ, fun _ => rfl, r0, q⟩, ?_⟩
  rintro m σ1 H1 ⟨ρ1, p1, R1, q1⟩
  cases m with
  | zero => exact q1.elim
  | succ m =>
    refine ⟨ρ1, Z, B, R1, O.sat_then (o := t ρ1) q1 (fun r hr H2 R2 => ?_) fun _ _ _ h => (h.trans p1).xw⟩
    obtain ⟨k, ρ2⟩ := r
    cases k with
    | false => rw [if_neg Bool.false_ne_true]; exact hr σ1 H2 p1 R2
    | true =>
      rw [if_pos rfl]
      refine ⟨fun σ' H' => ∃ ρ', (pr = true → σ'[0]? = σ[0]?) ∧ R c σ' H' ρ' Z B ∧ (whileL t b m ρ').sat (SW c pr σ Z B T) (XWS c pr E σ Z B), fun σ' H' h => ⟨m, Nat.lt_succ_self m, h⟩, ?_⟩
      refine ⟨ρ2, Z, B, R2, O.sat_then (o := b ρ2) hr (fun s hs => ?_) fun _ _ _ h => h.trans p1⟩
      obtain ⟨fl, ρ3⟩ := s
      cases fl with
      | nx => exact fun σ5 H5 p5 R5 => ⟨ρ3, fun p => (p5 p).trans (p1 p), R5, hs⟩
      | ct => exact fun σ5 H5 p5 R5 => ⟨ρ3, fun p => (p5 p).trans (p1 p), R5, hs⟩
      | bk => exact fun σ5 H5 p5 R5 => hs σ5 H5 (fun p => (p5 p).trans (p1 p)) R5
      | rt fr d => exact fun v σ5 H5 p5 R5 V5 => hs v σ5 H5 (fun p => (p5 p).trans (p1 p)) R5 V5
end
def wipeE (ρ : En) : List Nat → En
  | [] => ρ
  | v :: vs => (wipeE ρ vs).set v none
def noOwn (ρ : En) (vs : List Nat) : Bool := vs.all fun v => match ρ[v]? with
  | some (some (true, _)) => false
  | _ => true
def backE (ρ ρ' : En) : List Nat → En
  | [] => ρ'
  | v :: vs => match ρ[v]? with
    | some x => (backE ρ ρ' vs).set v x
    | none => backE ρ ρ' vs
def tAll : List TF → TF
  | [] => fun ρ => .ok (true, ρ)
  | t :: ts => fun ρ => (t ρ).bind fun r => if r.1 = true then tAll ts r.2 else .ok (false, r.2)
def lcL (vs : List Nat) (t : Tg) (cs : TF) (f : EF) : List D → En → O (List D × En)
  | [], ρ => .ok ([], ρ)
  | d :: ds, ρ => match t d (wipeE ρ vs) with
    | none => .bad
    | some ρ1 => (cs ρ1).bind fun r => if r.1 = true then (f r.2).bind fun a => (lcL vs t cs f ds a.2.2).bind fun w => .ok (a.2.1 :: w.1, w.2) else lcL vs t cs f ds r.2
def fLc (vs : List Nat) (fi : IF) (t : Tg) (cs : TF) (f : EF) : EF := fun ρ => (fi ρ).bind fun r =>
  if noOwn r.2 vs && decide (r.1.length ≤ 16777216) then
    match lcL vs t cs f r.1 r.2 with
    | .ok w => .ok (true, .lst w.1, backE r.2 w.2 vs)
    | _ => .bad
  else .bad
section
variable {c : Cc} {σ : St} {H H' : Hp} {ρ ρ' : En} {Z : Addr → Prop} {B : Hp} {vs : List Nat}
theorem wipe_get : ∀ (vs : List Nat) (σ : St) (j : Nat), (wipe σ vs)[j]? = if j ∈ vs ∧ j < σ.length then some none else σ[j]?
  | [], σ, j => by simp [wipe]
  | v :: vs, σ, j => by
    unfold wipe
    by_cases e : v = j
    · subst e
      by_cases k : v < σ.length
      · rw [List.getElem?_set_self (by rw [wipe_length]; exact k), if_pos ⟨List.mem_cons_self, k⟩]
      · rw [List.getElem?_eq_none (by rw [List.length_set, wipe_length]; omega), if_neg fun z => k z.2, List.getElem?_eq_none (by omega)]
    · rw [List.getElem?_set_ne e, wipe_get vs σ j]
      have : (j ∈ v :: vs ∧ j < σ.length) ↔ (j ∈ vs ∧ j < σ.length) := by simp [Ne.symm e]
      simp only [this]
theorem wipeE_len : ∀ (vs : List Nat) (ρ : En), (wipeE ρ vs).length = ρ.length
  | [], _ => rfl
  | v :: vs, ρ => by unfold wipeE; rw [List.length_set, wipeE_len vs ρ]
theorem wipeE_get : ∀ (vs : List Nat) (ρ : En) (j : Nat), (wipeE ρ vs)[j]? = if j ∈ vs ∧ j < ρ.length then some none else ρ[j]?
  | [], ρ, j => by simp [wipeE]
  | v :: vs, ρ, j => by
    unfold wipeE
    by_cases e : v = j
    · subst e
      by_cases k : v < ρ.length
      · rw [List.getElem?_set_self (by rw [wipeE_len]; exact k), if_pos ⟨List.mem_cons_self, k⟩]
      · rw [List.getElem?_eq_none (by rw [List.length_set, wipeE_len]; omega), if_neg fun z => k z.2, List.getElem?_eq_none (by omega)]
    · rw [List.getElem?_set_ne e, wipeE_get vs ρ j]
      have : (j ∈ v :: vs ∧ j < ρ.length) ↔ (j ∈ vs ∧ j < ρ.length) := by simp [Ne.symm e]
      simp only [this]
theorem backE_len : ∀ (vs : List Nat) (ρ ρ' : En), (backE ρ ρ' vs).length = ρ'.length
  | [], _, _ => rfl
  | v :: vs, ρ, ρ' => by
    unfold backE
    split
    · rw [List.length_set, backE_len vs ρ ρ']
    · exact backE_len vs ρ ρ'
theorem backE_get : ∀ (vs : List Nat) (ρ ρ' : En) (j : Nat), ρ.length = ρ'.length → (backE ρ ρ' vs)[j]? = if j ∈ vs then ρ[j]? else ρ'[j]?
  | [], ρ, ρ', j, _ => by simp [backE]
  | v :: vs, ρ, ρ', j, hl => by
    unfold backE
    split
    · rename_i x hx
      by_cases e : v = j
      · subst e
        have hv : v < ρ.length := by
          by_cases k : v < ρ.length
          · exact k
          · rw [List.getElem?_eq_none (by omega)] at hx; cases hx
        rw [List.getElem?_set_self (by rw [backE_len, ← hl]; exact hv), if_pos List.mem_cons_self, hx]
      · rw [List.getElem?_set_ne e, backE_get vs ρ ρ' j hl]
        simp [Ne.symm e]
    · rename_i hx
      rw [backE_get vs ρ ρ' j hl]
      by_cases e : v = j
      · subst e
        have hv : ρ.length ≤ v := List.getElem?_eq_none_iff.mp hx
        rw [if_pos (List.mem_cons_self : v ∈ v :: vs), hx]
        split
        · rfl
        · exact List.getElem?_eq_none (by omega)
      · simp [Ne.symm e]
theorem own_wipe {a : Addr} (h : Own (wipe σ vs) (wipeE ρ vs) a) : Own σ ρ a := by
  obtain ⟨j, d, h1, h2⟩ := h
  rw [wipeE_get] at h1
  rw [wipe_get] at h2
  split at h1
  · cases h1
  · split at h2
    · cases h2
    · exact ⟨j, d, h1, h2⟩
theorem R.wiped (r : R c σ H ρ Z B) (vs : List Nat) : R c (L2.wipe σ vs) H (wipeE ρ vs) Z B := by
  have av : ∀ b, Av (L2.wipe σ vs) (wipeE ρ vs) Z b → Av σ ρ Z b := fun b z => z.imp id own_wipe
  have g1 : ∀ (j : Nat) (x : Bool × D), (wipeE ρ vs)[j]? = some (some x) → ρ[j]? = some (some x) ∧ ∀ v, σ[j]? = some (some v) → (L2.wipe σ vs)[j]? = some (some v) := fun j x h => by
    rw [wipeE_get] at h
    split at h
    · cases h
    · rename_i hn
      refine ⟨h, fun v hv => ?_⟩
      rw [wipe_get, if_neg (by rw [r.len]; exact hn)]
      exact hv
  refine ⟨by rw [wipe_length, wipeE_len]; exact r.len, fun j d e => ?_, fun j d e => ?_, fun j l dj dl b e1 e2 s1 s2 => ?_, r.base, r.zd⟩
  · obtain ⟨h1, h2⟩ := g1 j _ e
    obtain ⟨v, k1, k2⟩ := r.frz j d h1
    exact ⟨v, h2 v k1, k2.avoid fun b z => .inl (av b z)⟩
  · obtain ⟨h1, h2⟩ := g1 j _ e
    obtain ⟨a, ds, xs, k2, k3, k4, k5, k6⟩ := r.own j d h1
    exact ⟨a, ds, xs, h2 _ k2, k3, k4.avoid fun b z => .inl (av b z), k5, k6⟩
  · refine r.excl j l dj dl b (g1 j _ e1).1 (g1 l _ e2).1 ?_ ?_
    · rw [wipe_get] at s1
      split at s1
      · cases s1
      · exact s1
    · rw [wipe_get] at s2
      split at s2
      · cases s2
      · exact s2
theorem R.otherC (r : R c σ H ρ Z B) {a : Addr} {u u' : HO} (hz : Z a) (ha : H a = some u) (cl : Cl u) (hb : B a = none) (k : But (· = a) H H') (ha' : H' a = some u') : R c σ H' ρ Z B := by
  have kw : ∀ b, b = a → ∃ u, H b = some u ∧ Cl u := fun b z => ⟨u, by rw [z]; exact ha, cl⟩
  refine ⟨r.len, fun j d e => ?_, fun j d e => ?_, r.excl, fun b o e => ?_, fun b z e => ?_⟩
  · obtain ⟨v, h1, h2⟩ := r.frz j d e
    exact ⟨v, h1, Rep.but k kw (fun b z => by subst z; exact .inl hz) h2⟩
  · obtain ⟨b, ds, xs, h2, h3, h4, h5, h6⟩ := r.own j d e
    exact ⟨b, ds, xs, h2, h3.move fun _ q => k _ _ (fun z => by subst z; exact h5 hz) q, RepL.but k kw (fun b z => by subst z; exact .inl hz) h4, h5, h6⟩
  · exact k b o (fun z => by subst z; rw [hb] at e; cases e) (r.base b o e)
  · by_cases q : b = a
    · subst q; rw [ha'] at e; cases e
    · cases q2 : H b with
      | none => exact r.zd b z q2
      | some o => rw [k b o q q2] at e; cases e
theorem R.other (r : R c σ H ρ Z B) {a : Addr} {xs ys : List V} (hz : Z a) (ha : H a = some (.lst xs)) (hb : B a = none) (k : But (· = a) H H') (ha' : H' a = some (.lst ys)) : R c σ H' ρ Z B := r.otherC hz ha (by exact trivial) hb k ha'
theorem noOwn_at (h : noOwn ρ vs = true) {j : Nat} (hj : j ∈ vs) (d : D) : ρ[j]? ≠ some (some (true, d)) := fun e => by
  have := List.all_eq_true.mp h j hj
  rw [e] at this
  cases this
theorem R.back {H1 : Hp} {Z' : Addr → Prop} (r1 : R c σ H1 ρ Z B) (hno : noOwn ρ vs = true) (r : R c (wipe σ vs) H (wipeE ρ' vs) Z' (hull σ ρ H1)) (hz : ∀ b, Z' b → Z b ∨ H1 b = none) : R c σ H (backE ρ ρ' vs) Z' B := by
  have hl : ρ.length = ρ'.length := by
    have := r.len
    rw [wipe_length, wipeE_len] at this
    rw [← r1.len]; exact this
  have out : ∀ (j : Nat), j ∉ vs → (L2.wipe σ vs)[j]? = σ[j]? ∧ (wipeE ρ' vs)[j]? = ρ'[j]? := fun j h => by
    rw [wipe_get, wipeE_get, if_neg fun z => h z.1, if_neg fun z => h z.1]
    exact ⟨rfl, rfl⟩
  have ow : ∀ b, Own σ (backE ρ ρ' vs) b → Own (L2.wipe σ vs) (wipeE ρ' vs) b := fun b ⟨j, d, h1, h2⟩ => by
    rw [backE_get vs ρ ρ' j hl] at h1
    split at h1
    · rename_i hj
      exact absurd h1 (noOwn_at hno hj d)
    · rename_i hj
      exact ⟨j, d, by rw [(out j hj).2]; exact h1, by rw [(out j hj).1]; exact h2⟩
  have av : ∀ b, Av σ (backE ρ ρ' vs) Z' b → Av (L2.wipe σ vs) (wipeE ρ' vs) Z' b := fun b z => z.imp id (ow b)
  refine ⟨by rw [backE_len, ← hl]; exact r1.len, fun j d e => ?_, fun j d e => ?_, fun j l dj dl b e1 e2 s1 s2 => ?_, fun b o e => r.base b o (r1.hull_le b o e), r.zd⟩
  · rw [backE_get vs ρ ρ' j hl] at e
    split at e
    · obtain ⟨v, k1, k2⟩ := r1.frz j d e
      exact ⟨v, k1, (r1.keepV' r (fun _ _ h => h) hz k2).avoid fun b z => .inl (av b z)⟩
    · rename_i hj
      obtain ⟨v, k1, k2⟩ := r.frz j d (by rw [(out j hj).2]; exact e)
      exact ⟨v, by rw [← (out j hj).1]; exact k1, k2.avoid fun b z => .inl (av b z)⟩
  · rw [backE_get vs ρ ρ' j hl] at e
    split at e
    · rename_i hj
      exact absurd e (noOwn_at hno hj d)
    · rename_i hj
      obtain ⟨a, ds, xs, k2, k3, k4, k5, k6⟩ := r.own j d (by rw [(out j hj).2]; exact e)
      refine ⟨a, ds, xs, by rw [← (out j hj).1]; exact k2, k3, k4.avoid fun b z => .inl (av b z), k5, ?_⟩
      cases q : B a with
      | none => rfl
      | some o => rw [r1.hull_le a o q] at k6; cases k6
  · have g : ∀ (j : Nat) (dj : D), (backE ρ ρ' vs)[j]? = some (some (true, dj)) → (wipeE ρ' vs)[j]? = some (some (true, dj)) ∧ (L2.wipe σ vs)[j]? = σ[j]? := fun j dj e => by
      rw [backE_get vs ρ ρ' j hl] at e
      split at e
      · rename_i hj
        exact absurd e (noOwn_at hno hj dj)
      · rename_i hj
        exact ⟨by rw [(out j hj).2]; exact e, (out j hj).1⟩
    exact r.excl j l dj dl b (g j dj e1).1 (g l dl e2).1 (by rw [(g j dj e1).2]; exact s1) (by rw [(g l dl e2).2]; exact s2)
theorem wipe_only {tv vs : List Nat} {σ σ2 : St} (h : Only tv (wipe σ vs) σ2) (ht : ∀ j ∈ tv, j ∈ vs) : wipe σ2 vs = wipe σ vs := by
  apply List.ext_getElem?
  intro j
  have hl : σ2.length = σ.length := by rw [h.1, wipe_length]
  rw [wipe_get, wipe_get, hl]
  split
  · rfl
  · rename_i hn
    by_cases hj : j ∈ vs
    · have : σ.length ≤ j := by
        by_cases k : j < σ.length
        · exact absurd ⟨hj, k⟩ hn
        · omega
      rw [List.getElem?_eq_none (by omega), List.getElem?_eq_none (by omega)]
    · rw [h.2 j fun z => hj (ht j z), wipe_get, if_neg fun z => hj z.1]
end
structure DTs (X : Cx) (c : Cc) (E : XK) (es : List Expr) (f : TF) : Prop where
  pt : PTs X es (liftT c E f)
theorem pts_imp {X : Cx} {es : List Expr} {t t' : TT} (h : PTs X es t) (k : ∀ σ H Q, t' σ H Q → t σ H Q) : PTs X es t' := ⟨fun pins s σ H Q I q => h.run pins s σ H Q I (k σ H Q q)⟩
section
variable {X : Cx} {c : Cc} {E : XK} {e : Expr} {f : TF}
theorem dts_nil : DTs X c E [] (tAll []) := ⟨pts_imp pts_nil fun σ H Q ⟨ρ, Z, B, r, q⟩ => q H r⟩
theorem dts_one (h : DT X c E e f) : DTs X c E [e] f := ⟨pts_one h.pt⟩
end
section
variable {X : Cx} {c : Cc} {E : XK} {elt tg iter : Expr} {ifs : List Expr} {fi : IF} {t : Tg} {cs : TF} {f : EF} {pos : Pos} {tv vs : List Nat}
theorem lift_lc (htv : ∀ j ∈ tv, j ∈ vs) {σ : St} {H : Hp} {Q : VK} (h : liftE c E (fLc vs fi t cs f) σ H Q) : tLc (liftI c E fi) (liftG c tv t) (liftT c E0 cs) (liftE c E0 f) vs σ H Q := by
  obtain ⟨ρ, Z, B, r0, h⟩ := h
  refine ⟨ρ, Z, B, r0, O.sat_then (o := fi ρ) h (fun a ha J H1 R1 io => ?_) fun _ _ _ h => h⟩
  intro L hL
  obtain ⟨ds, ρ1⟩ := a
  split at ha
  case isFalse => exact ha.elim
  rename_i hcond
  obtain ⟨hno, hlen⟩ := Bool.and_eq_true_iff.mp hcond
  have hlen : ds.length ≤ 16777216 := of_decide_eq_true hlen
  obtain ⟨G, Y, wk, hG, hY⟩ := io
  have RB := R1.strong
  have hz : ∀ b, (Z b ∨ b = L) → Z b ∨ H1 b = none := fun b z => z.imp id fun e => by rw [e]; exact hL
  have start : R c (wipe σ vs) (upd H1 L (.lst [])) (wipeE ρ1 vs) (fun b => Z b ∨ b = L) (hull σ ρ1 H1) := (RB.wiped vs).more (same_new hL) hL (by rw [upd_same]; exact fun z => nomatch z)
  have bL : hull σ ρ1 H1 L = none := by
    cases q : hull σ ρ1 H1 L with
    | none => rfl
    | some o => have := RB.base L o q; rw [hL] at this; cases this
  refine lc_it wk (fun i H' => ∃ ρ' acc accV, R c (wipe σ vs) H' (wipeE ρ' vs) (fun b => Z b ∨ b = L) (hull σ ρ1 H1) ∧ H' L = some (.lst accV) ∧ RepL c (Av (wipe σ vs) (wipeE ρ' vs) fun b => Z b ∨ b = L) H' accV acc ∧ acc.length ≤ i ∧
    (lcL vs t cs f (ds.drop i) ρ').sat (fun w => ∀ v H', R c σ H' (backE ρ1 w.2 vs) Z B → Val c σ H' (backE ρ1 w.2 vs) Z B true v (.lst (acc ++ w.1)) → Q v H') (fun _ _ _ => False)) ?_ ?_ ?_ ?_
  · refine ⟨ρ1, [], [], start, upd_same, .nil, Nat.zero_le _, ?_⟩
    rw [List.drop_zero]
    have ha : O.sat _ _ (match lcL vs t cs f ds ρ1 with
      | .ok w => O.ok (true, D.lst w.1, backE ρ1 w.2 vs)
      | _ => .bad) := ha
    cases q : lcL vs t cs f ds ρ1 with
    | ok w => rw [q] at ha; exact ha
    | ex _ _ _ => rw [q] at ha; exact ha.elim
    | bad => rw [q] at ha; exact ha.elim
  · rintro i H' _ ⟨ρ', _, _, R', _⟩
    exact hG H' R'.base
  · rintro i x H2 H3 hi ⟨ρ', acc, accV, R2, hacc, racc, hai, q2⟩ y
    obtain ⟨s, d, hd, tr⟩ := hY i H2 x H3 hi R2.base y
    have hdrop : ds.drop i = d :: ds.drop (i + 1) := by
      have hlt : i < ds.length := hi
      rw [List.getElem?_eq_getElem hlt] at hd
      cases hd
      exact List.drop_eq_getElem_cons hlt
    rw [hdrop] at q2
    unfold lcL at q2
    split at q2
    case h_1 => exact q2.elim
    rename_i ρ2 ht
    have R3 := R2.same s
    have acc3 := RepL.same s racc
    refine ⟨wipeE ρ' vs, _, hull (wipe σ vs) (wipeE ρ' vs) H3, d, R3.strong, tr _ fun v d h => R1.keepV' R2 (fun _ _ h => h) hz h, ρ2, ht, fun σ4 H4 p4 R4 _ => ?_⟩
    have ew : wipe σ4 vs = wipe σ vs := wipe_only p4 htv
    refine ⟨ew, ρ2, _, _, R4, O.sat_then (o := cs ρ2) q2 (fun r hr H5 R5 => ?_) fun _ _ _ h => h.elim⟩
    have nL : ¬ Own (wipe σ vs) (wipeE ρ' vs) L := fun z => (R3.ownB z).2 (.inr rfl)
    have hL3 : hull (wipe σ vs) (wipeE ρ' vs) H3 L = some (.lst accV) := by rw [hull_not nL]; exact s _ _ hacc
    obtain ⟨k, ρ3⟩ := r
    cases k with
    | false =>
      have hr : (lcL vs t cs f (ds.drop (i + 1)) ρ3).sat _ _ := hr
      refine iteF ⟨ρ3, acc, accV, ?_, R5.base _ _ hL3, ?_, by omega, hr⟩
      · have := (R5.weak R3.hull_le).wiped vs
        rw [ew] at this; exact this
      · have := R3.keepL' R5 (fun _ _ h => h) (fun _ => .inl) acc3
        rw [← ew]
        exact this.avoid fun b z => .inl (z.imp id own_wipe)
    | true =>
      refine iteT ⟨ρ3, _, _, R5, O.sat_then (o := f ρ3) hr (fun e he v H6 R6 V6 => ?_) fun _ _ _ h => h.elim⟩
      have h6L := R6.base _ _ hL3
      have acc6 := R3.keepL' R6 (fun _ _ h => h) (fun _ => .inl) acc3
      refine ⟨accV, h6L, ?_, e.2.2, acc ++ [e.2.1], accV ++ [v], ?_, upd_same, ?_, ?_, ?_⟩
      · have hi' : i < ds.length := hi
        rw [sizeLine_eq, racc.len]; omega
      · have := (R6.weak R3.hull_le).wiped vs
        rw [ew] at this
        exact this.other (.inr rfl) h6L bL (fun b o n e => by rw [upd_ne n]; exact e) upd_same
      · have main : RepL c (Av σ4 e.2.2 fun b => Z b ∨ b = L) H6 (accV ++ [v]) (acc ++ [e.2.1]) := acc6.app (.cons V6.rep .nil)
        rw [← ew]
        refine (RepL.but (W := (· = L)) (fun b o n e => by rw [upd_ne n]; exact e) (fun b z => ⟨.lst accV, by rw [z]; exact h6L, trivial⟩) (fun b z => .inl (.inr z)) main).avoid fun b z => .inl (z.imp id own_wipe)
      · rw [List.length_append, List.length_singleton]; omega
      · cases q : lcL vs t cs f (ds.drop (i + 1)) e.2.2 with
        | bad => rw [q] at he; exact he.elim
        | ex _ _ _ => rw [q] at he; exact he.elim
        | ok w =>
          rw [q] at he
          show ∀ v H', _ → Val c σ H' (backE ρ1 w.2 vs) Z B true v (.lst (acc ++ [e.2.1] ++ w.1)) → _
          rw [List.append_assoc]
          exact he
  · rintro H' ⟨ρ', acc, accV, R', hacc, racc, _, q'⟩
    rw [List.drop_length] at q'
    have q' : ∀ v H', R c σ H' (backE ρ1 ρ' vs) Z B → Val c σ H' (backE ρ1 ρ' vs) Z B true v (.lst (acc ++ [])) → Q v H' := q'
    rw [List.append_nil] at q'
    have RZ := R.back R1 hno R' hz
    have hl : ρ1.length = ρ'.length := by
      have := R'.len
      rw [wipe_length, wipeE_len] at this
      rw [← R1.len]; exact this
    refine q' (.ref L) H' (RZ.less fun b z => .inl z) ⟨L, acc, accV, rfl, .lst hacc, ?_, fun z => R1.zd L z hL, fun z => (RZ.ownB z).2 (.inr rfl), ?_, RZ⟩
    · refine racc.avoid fun b z => .inl (z.imp id fun ⟨j, d, h1, h2⟩ => ?_)
      rw [backE_get vs ρ1 ρ' j hl] at h1
      split at h1
      · rename_i hj
        exact absurd h1 (noOwn_at hno hj d)
      · rename_i hj
        exact ⟨j, d, by rw [wipeE_get, if_neg fun z => hj z.1]; exact h1, by rw [wipe_get, if_neg fun z => hj z.1]; exact h2⟩
    · cases q : B L with
      | none => rfl
      | some o => have := R1.base L o q; rw [hL] at this; cases this
theorem de_lc {scope : Scope} {own : List (Str × Nat)} (hc : X.calm = true) (hN : X.N.Nodup) (hi : DI X c E tg iter fi) (ok : BlkOk X.N X.env.scope scope own) (hvs : own.map (·.2) = vs) (htv : ∀ j ∈ tv, j ∈ vs)
    (hg : ∀ (s : Shared) (H : Hp) (C : Addr) (cl : List (Str × Addr)) (fp : List Addr), DG (X.blk s H scope (compEnvC scope cl C X.env) fp) c tv tg t) (ht : ∀ (s : Shared) (H : Hp) (C : Addr) (cl : List (Str × Addr)) (fp : List Addr), DTs (X.blk s H scope (compEnvC scope cl C X.env) fp) c E0 ifs cs)
    (he : ∀ (s : Shared) (H : Hp) (C : Addr) (cl : List (Str × Addr)) (fp : List Addr), DE (X.blk s H scope (compEnvC scope cl C X.env) fp) c E0 elt f) (hs : ∀ x, foldedSetIterable iter X.env x = pure x := by intro _; rfl) :
    DE X c E (.ListComp elt [⟨tg, iter, ifs, 0⟩] scope pos) (fLc vs fi t cs f) := by
  subst hvs
  exact ⟨pe_imp (pe_lc hc hN hi.pi ok (fun s H C cl fp => (hg s H C cl fp).pg) (fun s H C cl fp => (ht s H C cl fp).pt) (fun s H C cl fp => (he s H C cl fp).pe) hs) fun _ _ _ h => lift_lc htv h⟩
end
end U
namespace U
set_option autoImplicit false
open PySem PySem.Spec PyProof.Rows L2
def outs (io : Bool) (ρ : En) : Option (List D) := if io then (match ρ[0]? with
  | some (some (true, D.lst es)) => some [D.lst es]
  | _ => none) else some []
def finF (io : Bool) : O (Fl × En) → O (Bool × D × List D)
  | .ok r => match r.1 with
    | .nx => match outs io r.2 with
      | some o => .ok (false, .non, o)
      | none => .bad
    | .rt fr d => match outs io r.2 with
      | some o => .ok (fr, d, o)
      | none => .bad
    | _ => .bad
  | .ex k d ρ => if io then .bad else .ex k d ρ
  | .bad => .bad
def slots0 (io : Bool) : List D → En
  | [] => []
  | d :: ds => some (io, d) :: ds.map fun d => some (false, d)
def runF (np nn : Nat) (io : Bool) (b : SF) : FD := fun ds => if ds.length = np then finF io (b (slots0 io ds ++ List.replicate (nn - np) none)) else .bad
theorem slots0_len (io : Bool) (ds : List D) : (slots0 io ds).length = ds.length := by cases ds <;> simp [slots0]
section
variable {c : Cc} {H : Hp} {Z : Addr → Prop}
theorem start_get {N : List Str} {vs : List V} {i : Nat} {v : V} (h : vs[i]? = some v) : (L2.start N vs)[i]? = some (some v) := by
  unfold L2.start
  have hi : i < vs.length := by
    by_cases k : i < vs.length
    · exact k
    · rw [List.getElem?_eq_none (by omega)] at h; cases h
  rw [List.getElem?_append_left (by simpa using hi), List.getElem?_map, h]
  rfl
theorem slots_get {io : Bool} {ds : List D} {n : Nat} {i : Nat} {b : Bool} {d : D} (h : (slots0 io ds ++ List.replicate n none)[i]? = some (some (b, d))) : ds[i]? = some d ∧ (b = true → i = 0 ∧ io = true) ∧ (i = 0 → b = io) := by
  by_cases hi : i < ds.length
  · rw [List.getElem?_append_left (by rw [slots0_len]; exact hi)] at h
    cases ds with
    | nil => cases h
    | cons e es =>
      cases i with
      | zero =>
        have h : some (some (io, e)) = some (some (b, d)) := h
        cases h
        exact ⟨rfl, fun q => ⟨rfl, q⟩, fun _ => rfl⟩
      | succ i =>
        have h : (es.map fun d => some (false, d))[i]? = some (some (b, d)) := h
        rw [List.getElem?_map] at h
        cases q : es[i]? with
        | none => rw [q] at h; cases h
        | some x =>
          rw [q] at h
          cases h
          exact ⟨q, ⟨fun z => Bool.noConfusion z, fun z => Nat.noConfusion z⟩⟩
  · rw [List.getElem?_append_right (by rw [slots0_len]; omega), List.getElem?_replicate] at h
    split at h <;> cases h
end
section
variable {P : Program} {w : World} {K : PySem.W.Frag} {mg : Str → Option Value} {base : Heap} {CX : CXT} {c : Cc} {x qual : Str} {st : Stmt} {f : Addr} {fd : FuncData} {N ps : List Str} {k : Nat} {b : SF} {io : Bool}
theorem fn_den (F : Fun K x qual st f fd) (S : FnScope N ps (defScope st)) (hio : io = true → ps ≠ [])
    (hbody : ∀ (cdv : Value) (A : Around) (outer : List Env) (s : Shared) (H : Hp) (E : XK), Room k (A.deeper (envOfC qual (defScope st) s.heap.objs.size f cdv)) →
      DSs (cxOf CX P w K mg base N qual (defScope st) f cdv A outer s H E) c io E (defBody st) b) : FnOk P w K mg base CX (k + 1) f fd ps (spOf c io (runF ps.length N.length io b)) := by
  have hpl : ps.length ≤ N.length := by have := congrArg List.length S.pre; rw [List.length_take] at this; omega
  obtain ⟨oc, od, kV, doc, pm, an, cdv, ct, osl, rfl, lk, hcd⟩ := F.ex
  have len : ∀ vs H Q E, spOf c io (runF ps.length N.length io b) vs H Q E → vs.length = ps.length := by
    intro vs H Q E h
    cases io with
    | false =>
      obtain ⟨ds, Z, _, rl, h⟩ := h
      unfold runF at h
      split at h
      · rename_i e; rw [rl.len]; exact e
      · exact h.elim
    | true =>
      obtain ⟨a, ws, vs', es, ds', Z, rfl, _, _, _, _, rl, h⟩ := h
      unfold runF at h
      split at h
      · rename_i e; rw [List.length_cons, rl.len]; exact e
      · exact h.elim
  refine fn_of lk hcd S len fun A outer s H vs Q E hr h => ?_
  refine ⟨_, (hbody cdv A outer s H E hr).ps, ?_⟩
  have hvl := len vs H Q E h
  have hlen : ∀ ds : List D, ds.length = vs.length → (L2.start N vs).length = (slots0 io ds ++ List.replicate (N.length - ps.length) none).length := fun ds e => by
    unfold L2.start
    simp only [List.length_append, List.length_map, List.length_replicate, slots0_len]
    omega
  cases io with
  | false =>
    obtain ⟨ds, Z, zd, rl, h⟩ := h
    unfold runF at h
    split at h
    case isFalse => exact h.elim
    rename_i hdl
    have noO : ∀ a, ¬ Own (L2.start N vs) (slots0 false ds ++ List.replicate (N.length - ps.length) none) a := fun a ⟨i, d, h1, _⟩ => by
      have := (slots_get h1).2.1 rfl
      cases this.2
    refine ⟨slots0 false ds ++ List.replicate (N.length - ps.length) none, Z, H, ⟨hlen ds rl.len.symm, fun i d e => ?_, fun i d e => ?_, fun i j di dj a e1 e2 => ?_, fun _ _ h => h, zd⟩, ?_⟩
    · obtain ⟨v, h1, h2⟩ := rl.get (slots_get e).1
      exact ⟨v, start_get h1, h2.avoid fun a z => z.elim .inl fun z => absurd z (noO a)⟩
    · have := (slots_get e).2.1 rfl
      cases this.2
    · have := (slots_get e1).2.1 rfl
      cases this.2
    · cases hb : b (slots0 false ds ++ List.replicate (N.length - ps.length) none) with
      | bad => rw [hb] at h; exact h.elim
      | ex kk d ρ =>
        rw [hb] at h
        intro cls od σ' H' _ R' xr
        obtain ⟨C, dd, v, k1, k2, k3, k4, k5⟩ := xr
        exact h cls od H' R'.base ⟨C, dd, v, k1, k2, k3, k4, k5.avoid fun b z => .inl (.inl z)⟩
      | ok r =>
        rw [hb] at h
        obtain ⟨fl, ρ'⟩ := r
        cases fl with
        | nx =>
          intro σ' H' _ R'
          exact h .non H' R'.base .non
        | rt fr d =>
          intro v σ' H' _ R' V'
          refine h v H' R'.base ?_
          cases fr with
          | false => exact Rep.avoid (fun b z => .inl (.inl z)) V'
          | true =>
            obtain ⟨a, ds, xs, rfl, h3, h4, h5, h6, h7, h8⟩ := V'
            exact ⟨a, ds, xs, rfl, h7, h3, h4.avoid fun b z => .inl (.inl z)⟩
        | bk => exact h.elim
        | ct => exact h.elim
  | true =>
    obtain ⟨a, ws, vs', es, ds', Z, rfl, zd, nz, hH, rl1, rl2, h⟩ := h
    unfold runF at h
    split at h
    case isFalse => exact h.elim
    rename_i hdl
    have hlds : (D.lst es :: ds').length = (V.ref a :: vs').length := by rw [List.length_cons, List.length_cons, rl2.len]
    have s0 : (L2.start N (V.ref a :: vs'))[0]? = some (some (.ref a)) := start_get rfl
    have r0 : (slots0 true (D.lst es :: ds') ++ List.replicate (N.length - ps.length) none)[0]? = some (some (true, .lst es)) := rfl
    have ow : ∀ b, Own (L2.start N (V.ref a :: vs')) (slots0 true (D.lst es :: ds') ++ List.replicate (N.length - ps.length) none) b ↔ b = a := fun b => by
      constructor
      · rintro ⟨i, d, h1, h2⟩
        have := ((slots_get h1).2.1 rfl).1
        subst this
        rw [s0] at h2; cases h2; rfl
      · intro e
        subst e
        exact ⟨0, _, r0, s0⟩
    have av : ∀ b, Av (L2.start N (V.ref a :: vs')) (slots0 true (D.lst es :: ds') ++ List.replicate (N.length - ps.length) none) Z b → (Z b ∨ b = a) := fun b z => z.imp id (ow b).mp
    refine ⟨slots0 true (D.lst es :: ds') ++ List.replicate (N.length - ps.length) none, Z, fun b => if b = a then none else H b, ⟨hlen _ hlds, fun i d e => ?_, fun i d e => ?_, fun i j di dj b e1 e2 _ _ => ?_, fun b o e => ?_, zd⟩, ?_⟩
    · obtain ⟨h1, _, h3⟩ := slots_get e
      cases i with
      | zero => have := h3 rfl; cases this
      | succ i =>
        obtain ⟨v, k1, k2⟩ := rl2.get (i := i) (show ds'[i]? = some d from h1)
        exact ⟨v, start_get (show (V.ref a :: vs')[i + 1]? = some v from k1), k2.avoid fun b z => .inl (av b z)⟩
    · obtain ⟨h1, h2, _⟩ := slots_get e
      obtain ⟨e1, _⟩ := h2 rfl
      subst e1
      cases h1
      exact ⟨a, es, ws, s0, .lst hH, rl1.avoid fun b z => .inl (av b z), nz, if_pos rfl⟩
    · rw [((slots_get e1).2.1 rfl).1, ((slots_get e2).2.1 rfl).1]
    · by_cases q : b = a
      · rw [if_pos q] at e; cases e
      · rw [if_neg q] at e; exact e
    · cases hb : b (slots0 true (D.lst es :: ds') ++ List.replicate (N.length - ps.length) none) with
      | bad => rw [hb] at h; exact h.elim
      | ex kk d ρ => rw [hb] at h; exact h.elim
      | ok r =>
        rw [hb] at h
        obtain ⟨fl, ρ'⟩ := r
        -- the end: the list of the first slot as it is then
        have fin : ∀ (fr : Bool) (v : V) (d : D) (σ' : St) (H' : Hp) (Qf : Prop), (true = true → σ'[0]? = (L2.start N (V.ref a :: vs'))[0]?) → R c σ' H' ρ' Z (fun b => if b = a then none else H b) → Val c σ' H' ρ' Z (fun b => if b = a then none else H b) fr v d →
            (match outs true ρ' with
              | some o => ∀ ws' es', But (· = a) H H' → o = [.lst es'] → H' a = some (.lst ws') → RepL c (fun b => (Z b ∨ b = a) ∨ (fr = true ∧ v = .ref b)) H' ws' es' → NewC c (fun b => Z b ∨ b = a) H H' fr v d → Qf
              | none => True) → (outs true ρ' ≠ none) → Qf := by
          intro fr v d σ' H' Qf hp R' V' hq hno
          have hp := hp rfl
          rw [s0] at hp
          unfold outs at hq hno
          rw [if_pos rfl] at hq hno
          split at hno
          case h_2 => exact absurd rfl hno
          rename_i d0 e0
          rw [e0] at hq
          obtain ⟨a', es', ws', k2, kC, k4, k5, k6⟩ := R'.own 0 _ e0
          obtain ⟨ee, k3⟩ := kC.toL
          rw [ee] at k4
          rw [hp] at k2
          cases k2
          have oa : Own σ' ρ' a := ⟨0, _, e0, hp⟩
          have avb : ∀ b, (Z b ∨ b = a) → Av σ' ρ' Z b := fun b z => z.imp id fun e => by rw [e]; exact oa
          refine hq ws' d0 (fun b o n e => R'.base b o (by rw [if_neg n]; exact e)) rfl k3 ?_ ?_
          · cases fr with
            | false => exact k4.avoid fun b z => .inl (z.elim (avb b) fun q => by cases q.1)
            | true =>
              obtain ⟨y, ds, xs, rfl, h3, h4, h5, h6, h7, h8⟩ := V'
              obtain ⟨a2, es2, ws2, q2, qC, q4, _, _⟩ := h8.own 0 _ e0
              obtain ⟨ee2, q3⟩ := qC.toL
              rw [ee2] at q4
              rw [hp] at q2; cases q2
              rw [k3] at q3; cases q3
              refine q4.avoid fun b z => .inl ?_
              rcases z with z | z
              · exact (avb b z).imp .inl id
              · have := z.2; cases this; exact .inl (.inr rfl)
          · cases fr with
            | false => exact Rep.avoid (fun b z => .inl (avb b z)) V'
            | true =>
              obtain ⟨y, ds, xs, rfl, h3, h4, h5, h6, h7, h8⟩ := V'
              have ya : y ≠ a := fun e => h6 (by rw [e]; exact oa)
              have h7 : H y = none := by rw [← h7]; exact (if_neg ya).symm
              exact ⟨y, ds, xs, rfl, h7, h3, h4.avoid fun b z => .inl (by
                rcases z with z | z
                · exact (avb b z).imp .inl id
                · exact .inl (.inr z))⟩
        cases fl with
        | nx =>
          intro σ' H' hp R'
          cases ho : outs true ρ' with
          | none => simp only [finF, ho] at h; exact h.elim
          | some o =>
            simp only [finF, ho] at h
            refine fin false .non .non σ' H' (Q .non H') hp R' .non ?_ (by rw [ho]; exact fun z => nomatch z)
            rw [ho]
            intro ws' es' k1 k2 k3 k4 k5
            exact h .non H' ws' es' k1 k2 k3 k4 k5
        | rt fr d =>
          intro v σ' H' hp R' V'
          cases ho : outs true ρ' with
          | none => simp only [finF, ho] at h; exact h.elim
          | some o =>
            simp only [finF, ho] at h
            refine fin fr v d σ' H' (Q v H') hp R' V' ?_ (by rw [ho]; exact fun z => nomatch z)
            rw [ho]
            intro ws' es' k1 k2 k3 k4 k5
            exact h v H' ws' es' k1 k2 k3 k4 k5
        | bk => exact h.elim
        | ct => exact h.elim
end
end U
namespace U
set_option autoImplicit false
open PySem PySem.Spec PyProof.Rows L2
mutual
def D.py : D → PyData
  | .non => .none
  | .bl b => .bool b
  | .int i => .int i
  | .str x => .str x
  | .tup ds => .tuple (D.pyL ds)
  | .lst ds => .list (D.pyL ds)
  | .dic _ _ => .none
  | .fn _ => .none
  | .exc _ _ => .none
  | .scr _ => .none
def D.pyL : List D → List PyData
  | [] => []
  | d :: ds => D.py d :: D.pyL ds
end
def D.okN : Nat → D → Bool
  | _, .non => true
  | _, .bl _ => true
  | _, .int _ => true
  | _, .str x => PyData.strOk x
  | n + 1, .tup ds => ds.all (D.okN n)
  | n + 1, .lst ds => ds.all (D.okN n)
  | _, _ => false
abbrev D.good (d : D) : Bool := D.okN 60 d
mutual
def eqD : D → D → Bool
  | .non, .non => true
  | .bl a, .bl b => a == b
  | .bl a, .int j => (if a then 1 else 0) == j
  | .int i, .bl b => i == (if b then 1 else 0)
  | .int i, .int j => i == j
  | .str x, .str y => x == y
  | .tup xs, .tup ys => eqDL xs ys
  | .lst xs, .lst ys => eqDL xs ys
  | _, _ => false
def eqDL : List D → List D → Bool
  | [], [] => true
  | x :: xs, y :: ys => eqD x y && eqDL xs ys
  | _, _ => false
end
mutual
theorem eqD_py : ∀ (d e : D) (n m : Nat), D.okN n d = true → D.okN m e = true → PyData.eqv d.py e.py = eqD d e
  | .non, e, n, m, _, h => by cases e <;> first | rfl | (cases m <;> exact absurd h (by simp [D.okN]))
  | .bl a, e, n, m, _, h => by cases e <;> first | rfl | (cases m <;> exact absurd h (by simp [D.okN]))
  | .int a, e, n, m, _, h => by cases e <;> first | rfl | (cases m <;> exact absurd h (by simp [D.okN]))
  | .str a, e, n, m, _, h => by cases e <;> first | rfl | (cases m <;> exact absurd h (by simp [D.okN]))
  | .tup xs, e, n, m, h0, h => by
    cases e with
    | tup ys =>
      cases n with
      | zero => simp [D.okN] at h0
      | succ n =>
        cases m with
        | zero => simp [D.okN] at h
        | succ m =>
          unfold D.okN at h0 h
          show PyData.eqvAll (D.pyL xs) (D.pyL ys) = eqDL xs ys
          exact eqDL_py xs ys n m h0 h
    | _ => first | rfl | (cases m <;> exact absurd h (by simp [D.okN]))
  | .lst xs, e, n, m, h0, h => by
    cases e with
    | lst ys =>
      cases n with
      | zero => simp [D.okN] at h0
      | succ n =>
        cases m with
        | zero => simp [D.okN] at h
        | succ m =>
          unfold D.okN at h0 h
          show PyData.eqvAll (D.pyL xs) (D.pyL ys) = eqDL xs ys
          exact eqDL_py xs ys n m h0 h
    | _ => first | rfl | (cases m <;> exact absurd h (by simp [D.okN]))
  | .dic _ _, _, n, _, h, _ => by cases n <;> simp [D.okN] at h
  | .fn _, _, n, _, h, _ => by cases n <;> simp [D.okN] at h
  | .exc _ _, _, n, _, h, _ => by cases n <;> simp [D.okN] at h
  | .scr _, _, n, _, h, _ => by cases n <;> simp [D.okN] at h
theorem eqDL_py : ∀ (xs ys : List D) (n m : Nat), xs.all (D.okN n) = true → ys.all (D.okN m) = true → PyData.eqvAll (D.pyL xs) (D.pyL ys) = eqDL xs ys
  | [], [], _, _, _, _ => rfl
  | [], _ :: _, _, _, _, _ => rfl
  | _ :: _, [], _, _, _, _ => rfl
  | x :: xs, y :: ys, n, m, h0, h => by
    rw [List.all_cons, Bool.and_eq_true] at h0 h
    show (PyData.eqv x.py y.py && PyData.eqvAll (D.pyL xs) (D.pyL ys)) = (eqD x y && eqDL xs ys)
    rw [eqD_py x y n m h0.1 h.1, eqDL_py xs ys n m h0.2 h.2]
end
mutual
theorem ok_lay : ∀ (d : D) (n : Nat), D.okN n d = true → d.py.canLay0 = true ∧ d.py.depth ≤ n
  | .non, n, _ => ⟨rfl, Nat.zero_le _⟩
  | .bl _, n, _ => ⟨rfl, Nat.zero_le _⟩
  | .int _, n, _ => ⟨rfl, Nat.zero_le _⟩
  | .str x, n, h => ⟨by cases n <;> exact h, Nat.zero_le _⟩
  | .tup ds, n, h => by
    cases n with
    | zero => simp [D.okN] at h
    | succ n =>
      unfold D.okN at h
      obtain ⟨h1, h2⟩ := ok_layL ds n h
      exact ⟨h1, Nat.succ_le_succ h2⟩
  | .lst ds, n, h => by
    cases n with
    | zero => simp [D.okN] at h
    | succ n =>
      unfold D.okN at h
      obtain ⟨h1, h2⟩ := ok_layL ds n h
      exact ⟨h1, Nat.succ_le_succ h2⟩
  | .dic _ _, n, h => by cases n <;> simp [D.okN] at h
  | .fn _, n, h => by cases n <;> simp [D.okN] at h
  | .exc _ _, n, h => by cases n <;> simp [D.okN] at h
  | .scr _, n, h => by cases n <;> simp [D.okN] at h
theorem ok_layL : ∀ (ds : List D) (n : Nat), ds.all (D.okN n) = true → PyData.canLayAll0 (D.pyL ds) = true ∧ PyData.depthAll (D.pyL ds) ≤ n
  | [], n, _ => ⟨rfl, Nat.zero_le _⟩
  | d :: ds, n, h => by
    rw [List.all_cons, Bool.and_eq_true] at h
    obtain ⟨h1, h2⟩ := ok_lay d n h.1
    obtain ⟨h3, h4⟩ := ok_layL ds n h.2
    exact ⟨Bool.and_eq_true_iff.mpr ⟨h1, h3⟩, Nat.max_le.mpr ⟨h2, h4⟩⟩
end
theorem good_shaped {d : D} (h : d.good = true) : SeqAt.shaped d.py = true := by
  obtain ⟨h1, h2⟩ := ok_lay d 60 h
  exact Bool.and_eq_true_iff.mpr ⟨h1, decide_eq_true (Nat.le_trans h2 (by decide))⟩
mutual
theorem Rep.dp {c : Cc} {A : Addr → Prop} {H : Hp} : ∀ (d : D) (n : Nat) (v : V), D.okN n d = true → Rep c A H v d → Dp c.K H v d.py
  | .non, _, _, _, h => by cases h; exact .non
  | .bl b, _, _, _, h => by cases h; exact .bl b
  | .int i, _, _, _, h => by cases h; exact .int i
  | .str x, _, _, _, h => by cases h; exact .str x
  | .tup ds, n, _, k, h => by
    cases n with
    | zero => simp [D.okN] at k
    | succ n =>
      unfold D.okN at k
      cases h with
      | tup h1 h2 => exact .tup h1 (RepL.dp ds n _ k h2)
  | .lst ds, n, _, k, h => by
    cases n with
    | zero => simp [D.okN] at k
    | succ n =>
      unfold D.okN at k
      cases h with
      | lst h1 _ h2 => exact .lst (.inl (.inl h1)) (RepL.dp ds n _ k h2)
  | .dic _ _, n, _, k, _ => by cases n <;> simp [D.okN] at k
  | .fn _, n, _, k, _ => by cases n <;> simp [D.okN] at k
  | .exc _ _, _, _, _, h => by cases h
  | .scr _, n, _, k, _ => by cases n <;> simp [D.okN] at k
theorem RepL.dp {c : Cc} {A : Addr → Prop} {H : Hp} : ∀ (ds : List D) (n : Nat) (vs : List V), ds.all (D.okN n) = true → RepL c A H vs ds → DpAll c.K H vs (D.pyL ds)
  | [], _, _, _, h => by cases h; exact .nil
  | d :: ds, n, _, k, h => by
    rw [List.all_cons, Bool.and_eq_true] at k
    cases h with
    | cons h1 h2 => exact .cons (Rep.dp d n _ k.1 h1) (RepL.dp ds n _ k.2 h2)
end
theorem RepT.dp {c : Cc} {A : Addr → Prop} {H : Hp} {d : D} {v : V} (k : d.good = true) (h : RepT c A H v d) : Dp c.K H v d.py := by
  rcases h with h | ⟨a, ds, xs, rfl, h1, h2⟩
  · exact Rep.dp d 60 v k h
  · cases h1 with
    | lst h1 => exact .lst (.inl (.inl h1)) (RepL.dp ds 59 xs k h2)
    | dicK h1 _ => simp [D.good, D.okN] at k
    | dicT h1 _ _ => simp [D.good, D.okN] at k
section
variable {c : Cc} {A : Addr → Prop} {H : Hp} {v : V}
theorem repT_int {i : Int} (h : RepT c A H v (.int i)) : v = .int i := by
  rcases h with h | ⟨_, _, _, _, e, _⟩
  · cases h; rfl
  · cases e
theorem repT_str {x : Str} (h : RepT c A H v (.str x)) : v = .str x := by
  rcases h with h | ⟨_, _, _, _, e, _⟩
  · cases h; rfl
  · cases e
theorem repT_tup {ds : List D} (h : RepT c A H v (.tup ds)) : ∃ a xs, v = .ref a ∧ SqT c.K H a xs ∧ RepL c A H xs ds := by
  rcases h with h | ⟨_, _, _, _, e, _⟩
  · cases h with
    | tup h1 h2 => exact ⟨_, _, rfl, h1, h2⟩
  · cases e
theorem repT_lst {ds : List D} (h : RepT c A H v (.lst ds)) : ∃ a xs, v = .ref a ∧ H a = some (.lst xs) ∧ RepL c A H xs ds := by
  rcases h with h | ⟨a, ds', xs, e, h1, h2⟩
  · cases h with
    | lst h1 _ h2 => exact ⟨_, _, rfl, h1, h2⟩
  · obtain ⟨e2, hh⟩ := h1.toL
    rw [e2] at h2
    exact ⟨a, xs, e, hh, h2⟩
theorem new_self {d : D} (h : Rep c A H v d) : New c A H H false v d := ⟨Same.refl H, h⟩
theorem new_tup {xs : List V} {ds : List D} {p : Addr} (np : H p = none) (h : RepL c A H xs ds) : New c A H (upd H p (.tup xs)) false (.ref p) (.tup ds) := ⟨same_new np, .tup (.inl (.inl upd_same)) (RepL.same (same_new np) h)⟩
theorem new_lst {xs : List V} {ds : List D} {p : Addr} (np : H p = none) (h : RepL c A H xs ds) : New c A H (upd H p (.lst xs)) true (.ref p) (.lst ds) := ⟨same_new np, p, ds, xs, rfl, np, .lst upd_same, h⟩
end
def dI2 (C : Int → Int → Bool) (g : Int → Int → Int) : D → D → Option (Bool × D)
  | .int i, .int j => if C i j then some (false, .int (g i j)) else none
  | _, _ => none
def dB2 (g : Int → Int → Bool) : D → D → Option Bool
  | .int i, .int j => some (g i j)
  | _, _ => none
section
variable {c : Cc}
theorem gs_rI {C : Int → Int → Prop} {Cb : Int → Int → Bool} {g : Int → Int → Int} (h : ∀ i j, Cb i j = true → C i j) : GS2 c (dI2 Cb g) (rI C fun i j => .int (g i j)) := by
  intro A H x y d1 d2 fr d Q h1 h2 e k
  unfold dI2 at e
  split at e
  case h_2 => cases e
  rename_i i j
  split at e
  case isFalse => cases e
  rename_i hc
  cases e
  exact ⟨i, j, repT_int h1, repT_int h2, h i j hc, k _ H (new_self (.int _))⟩
theorem gs_rI0 {g : Int → Int → Int} : GS2 c (dI2 (fun _ _ => true) g) (rI0 fun i j => .int (g i j)) := by
  intro A H x y d1 d2 fr d Q h1 h2 e k
  unfold dI2 at e
  split at e
  case h_2 => cases e
  rename_i i j
  split at e
  case isFalse => cases e
  cases e
  exact ⟨i, j, repT_int h1, repT_int h2, k _ H (new_self (.int _))⟩
theorem gs_rB0 {g : Int → Int → Bool} : GS2 c (blO (dB2 g)) (rI0 fun i j => .bl (g i j)) := by
  intro A H x y d1 d2 fr d Q h1 h2 e k
  unfold blO dB2 at e
  split at e
  case h_2 => cases e
  rename_i i j
  cases e
  exact ⟨i, j, repT_int h1, repT_int h2, k _ H (new_self (.bl _))⟩
end
def dAdd : D → D → Option (Bool × D)
  | .int i, .int j => some (false, .int (i + j))
  | .str x, .str y => if x.length + y.length ≤ 16777216 then some (false, .str (x ++ y)) else none
  | .tup xs, .tup ys => if xs.length + ys.length ≤ 16777216 then some (false, .tup (xs ++ ys)) else none
  | .lst xs, .lst ys => if xs.length + ys.length ≤ 16777216 then some (true, .lst (xs ++ ys)) else none
  | _, _ => none
def bitsOf (i : Int) : Nat := i.natAbs.log2 + 1
def dMul : D → D → Option (Bool × D)
  | .int i, .int j => if bitsOf i + bitsOf j ≤ 1000000 then some (false, .int (i * j)) else none
  | .lst xs, .int k => if -(2 ^ 63) ≤ k ∧ k < 2 ^ 63 ∧ xs.length * k.toNat ≤ 16777216 then some (true, .lst (List.replicate k.toNat xs).flatten) else none
  | .tup xs, .int k => if xs ≠ [] ∧ 2 ≤ k ∧ k ≤ 1000 ∧ xs.length ≤ 1000 then some (false, .tup (List.replicate k.toNat xs).flatten) else none
  | _, _ => none
section
variable {X : Cx} {c : Cc}
theorem gs_add (hK : X.K = c.K) : GS2 c dAdd (fun x y H Q => rI0 (fun i j => .int (i + j)) x y H Q ∨ (∃ i j, x = .str i ∧ y = .str j ∧ i.length + j.length ≤ sizeLine ∧ Q (.str (i ++ j)) H) ∨ rCatA X.K x y H Q ∨ rCat x y H Q) := by
  intro A H x y d1 d2 fr d Q h1 h2 e k
  unfold dAdd at e
  split at e
  · rename_i i j
    cases e
    exact .inl ⟨i, j, repT_int h1, repT_int h2, k _ H (new_self (.int _))⟩
  · rename_i a b
    split at e
    case isFalse => cases e
    rename_i hl
    cases e
    exact .inr (.inl ⟨a, b, repT_str h1, repT_str h2, by rw [sizeLine_eq]; exact hl, k _ H (new_self (.str _))⟩)
  · rename_i xs ys
    split at e
    case isFalse => cases e
    rename_i hl
    cases e
    obtain ⟨a, us, rfl, ha, ra⟩ := repT_tup h1
    obtain ⟨b, ws, rfl, hb, rb⟩ := repT_tup h2
    refine .inr (.inr (.inl ⟨a, b, us, ws, rfl, rfl, by rw [hK]; exact ha, by rw [hK]; exact hb, by rw [sizeLine_eq, ra.len, rb.len]; exact hl, fun e => ?_, fun _ e => ?_, fun _ _ p np => ?_⟩))
    · subst e
      cases ra
      exact k _ H (new_self (.tup hb rb))
    · subst e
      cases rb
      rw [List.append_nil] at k
      exact k _ H (new_self (.tup ha ra))
    · exact k _ _ (new_tup np (ra.app rb))
  · rename_i xs ys
    split at e
    case isFalse => cases e
    rename_i hl
    cases e
    obtain ⟨a, us, rfl, ha, ra⟩ := repT_lst h1
    obtain ⟨b, ws, rfl, hb, rb⟩ := repT_lst h2
    exact .inr (.inr (.inr ⟨a, b, us, ws, rfl, rfl, ha, hb, by rw [sizeLine_eq, ra.len, rb.len]; exact hl, fun p np => k _ _ (new_lst np (ra.app rb))⟩))
  · cases e
theorem or_add : OpR X (binaryOp .Add) (fun x y H Q => rI0 (fun i j => .int (i + j)) x y H Q ∨ (∃ i j, x = .str i ∧ y = .str j ∧ i.length + j.length ≤ sizeLine ∧ Q (.str (i ++ j)) H) ∨ rCatA X.K x y H Q ∨ rCat x y H Q) :=
  op_add.or (op_add_str.or (op_catA.or op_cat))
theorem bits_ok {i j : Int} (h : bitsOf i + bitsOf j ≤ 1000000) : CMulW i j := by
  unfold bitsOf at h
  unfold CMulW
  omega
theorem gs_mul (hK : X.K = c.K) : GS2 c dMul (fun x y H Q => rI CMulW (fun i j => .int (i * j)) x y H Q ∨ rRep x y H Q ∨ rRepT X.K x y H Q) := by
  intro A H x y d1 d2 fr d Q h1 h2 e k
  unfold dMul at e
  split at e
  · rename_i i j
    split at e
    case isFalse => cases e
    rename_i hc
    cases e
    exact .inl ⟨i, j, repT_int h1, repT_int h2, bits_ok hc, k _ H (new_self (.int _))⟩
  · rename_i xs j
    split at e
    case isFalse => cases e
    rename_i hc
    cases e
    obtain ⟨a, us, rfl, ha, ra⟩ := repT_lst h1
    exact .inr (.inl ⟨a, j, us, rfl, repT_int h2, ha, hc.1, hc.2.1, by rw [sizeLine_eq, ra.len]; exact hc.2.2, fun p np => k _ _ (new_lst np (ra.rep _))⟩)
  · rename_i xs j
    split at e
    case isFalse => cases e
    rename_i hc
    cases e
    obtain ⟨a, us, rfl, ha, ra⟩ := repT_tup h1
    exact .inr (.inr ⟨a, j, us, rfl, repT_int h2, by rw [hK]; exact ha, fun e => hc.1 (by subst e; cases ra; rfl), hc.2.1, hc.2.2.1, by rw [ra.len]; exact hc.2.2.2, fun p np => k _ _ (new_tup np (ra.rep _))⟩)
  · cases e
theorem or_mul : OpR X (binaryOp .Mult) (fun x y H Q => rI CMulW (fun i j => .int (i * j)) x y H Q ∨ rRep x y H Q ∨ rRepT X.K x y H Q) := op_mulW.or (op_rep.or op_repT)
end
def dFdiv : D → D → Option (Bool × D) := dI2 (fun _ j => decide (j ≠ 0) && decide (j.natAbs.log2 < 9000)) Int.fdiv
def dMod : D → D → Option (Bool × D) := dI2 (fun _ j => decide (j ≠ 0)) Int.fmod
def dSub : D → D → Option (Bool × D) := dI2 (fun _ _ => true) (· - ·)
def dPow : D → D → Option (Bool × D) := dI2 (fun i j => decide (0 ≤ j) && decide (j ≤ 1000000) && decide (i.natAbs < 2 ^ 64)) fun i j => i ^ j.toNat
def CFdiv (_ j : Int) : Prop := j ≠ 0 ∧ j.natAbs.log2 < 9000
section
variable {X : Cx} {c : Cc}
theorem op_fdivX : OpR X (binaryOp .FloorDiv) (rI CFdiv fun i j => .int (i.fdiv j)) := opI fun i j _ _ _ _ _ hc q => floordiv_int hc.1 q (.inl (PyProof.noPylong_of_log2 hc.2))
theorem gs_fdiv : GS2 c dFdiv (rI CFdiv fun i j => .int (i.fdiv j)) := gs_rI fun i j h => by
  have := Bool.and_eq_true_iff.mp h
  exact ⟨of_decide_eq_true this.1, of_decide_eq_true this.2⟩
theorem gs_mod : GS2 c dMod (rI (fun _ j => j ≠ 0) fun i j => .int (i.fmod j)) := gs_rI fun i j h => of_decide_eq_true h
theorem gs_sub : GS2 c dSub (rI0 fun i j => .int (i - j)) := gs_rI0
theorem gs_pow : GS2 c dPow (rI CPow fun i j => .int (i ^ j.toNat)) := gs_rI fun i j h => by
  rw [Bool.and_eq_true, Bool.and_eq_true] at h
  exact ⟨of_decide_eq_true h.1.1, of_decide_eq_true h.1.2, of_decide_eq_true h.2⟩
end
section
variable {X : Cx} {c : Cc}
end
def dEq (x y : D) : Option Bool := if x.good && y.good then some (eqD x y) else none
def dNe (x y : D) : Option Bool := if x.good && y.good then some (!eqD x y) else none
section
variable {X : Cx} {c : Cc}
theorem gs_eq (hK : X.K = c.K) : GS2 c (blO dEq) (rEqD X.K) := by
  intro A H x y d1 d2 fr d Q h1 h2 e k
  unfold blO dEq at e
  split at e
  case isFalse => cases e
  rename_i hg
  obtain ⟨g1, g2⟩ := Bool.and_eq_true_iff.mp hg
  cases e
  refine ⟨d1.py, d2.py, by rw [hK]; exact h1.dp g1, by rw [hK]; exact h2.dp g2, good_shaped g1, good_shaped g2, ?_⟩
  rw [eqD_py d1 d2 60 60 g1 g2]
  exact k _ H (new_self (.bl _))
theorem gs_ne (hK : X.K = c.K) : GS2 c (blO dNe) (rNeD X.K) := by
  intro A H x y d1 d2 fr d Q h1 h2 e k
  unfold blO dNe at e
  split at e
  case isFalse => cases e
  rename_i hg
  obtain ⟨g1, g2⟩ := Bool.and_eq_true_iff.mp hg
  cases e
  refine ⟨d1.py, d2.py, by rw [hK]; exact h1.dp g1, by rw [hK]; exact h2.dp g2, good_shaped g1, good_shaped g2, ?_⟩
  rw [eqD_py d1 d2 60 60 g1 g2]
  exact k _ H (new_self (.bl _))
end
end U
namespace U
set_option autoImplicit false
open PySem PySem.Spec PyProof.Rows L2
def D.isNon : D → Option Bool
  | .non => some true
  | .fn _ => none
  | _ => some false
def dIsN (x y : D) : Option Bool := match y with
  | .non => x.isNon
  | _ => none
def D.isB (b : Bool) : D → Option Bool
  | .bl a => some (a == b)
  | .fn _ => none
  | _ => some false
def dIsB (x y : D) : Option Bool := match y with
  | .bl b => x.isB b
  | _ => none
section
variable {X : Cx} {c : Cc}
theorem isNon_dec {A : Addr → Prop} {H : Hp} {v : V} {d : D} {b : Bool} (h : RepT c A H v d) (e : d.isNon = some b) : decide (v = .non) = b := by
  rcases h with h | ⟨a, ds, xs, rfl, hc, _⟩
  · cases h <;> first | (cases e; rfl) | cases e
  · cases hc <;> first | (cases e; rfl) | cases e
theorem gs_isN : GS2 c (blO dIsN) (fun x y H Q => y = .non ∧ Q (.bl (decide (x = .non))) H) := by
  intro A H x y d1 d2 fr d Q h1 h2 e k
  unfold blO dIsN at e
  split at e
  case h_2 => cases e
  cases hn : d1.isNon with
  | none => rw [hn] at e; cases e
  | some b =>
    rw [hn] at e
    cases e
    refine ⟨?_, ?_⟩
    · rcases h2 with h2 | ⟨_, _, _, _, z, _⟩
      · cases h2; rfl
      · cases z
    · rw [isNon_dec h1 hn]; exact k _ H (new_self (.bl _))
def rIsV : R2 := fun x y H Q => ∃ b : Bool, y = .bl b ∧ Q (.bl (decide (x = .bl b))) H
theorem op_isV : OpR X (compareOp .Is) rIsV := by
  intro pins s σ H x y v u Q I rx ry h
  obtain ⟨b, rfl, q⟩ := h
  cases (show u = Value.bool b from ry)
  have pl : PySem.plainIs v (.bool b) = true := by
    cases x with
    | non => cases rx; rfl
    | bl a => cases rx; rfl
    | int i => obtain ⟨t, rfl⟩ := rx; rfl
    | str z => obtain ⟨t, rfl⟩ := rx; rfl
    | byt z => obtain ⟨t, rfl⟩ := rx; rfl
    | flt z => obtain ⟨t, rfl⟩ := rx; rfl
    | ref a => cases rx; rfl
    | ty n => cases rx; rfl
  by_cases e : x = .bl b
  · subst e
    cases (show v = Value.bool b from rx)
    exact wpAny_is_self rfl ⟨.bl true, H, I, rfl, by simpa using q⟩
  · refine wpAny_is_other pl (fun z => e ?_) ⟨.bl false, H, I, rfl, by simpa [e] using q⟩
    subst z
    exact RelV.inj rx (show RelV (.bl b) (.bool b) from rfl)
theorem gs_isB : GS2 c (blO dIsB) rIsV := by
  intro A H x y d1 d2 fr d Q h1 h2 e k
  unfold blO dIsB at e
  split at e
  case h_2 => cases e
  rename_i b
  cases hn : d1.isB b with
  | none => rw [hn] at e; cases e
  | some r =>
    rw [hn] at e
    cases e
    refine ⟨b, repT_bl h2, ?_⟩
    have : decide (x = .bl b) = r := by
      rcases h1 with h1 | ⟨a, ds, xs, rfl, hc, _⟩
      · cases h1 with
        | bl a =>
          have hn : some (a == b) = some r := hn
          cases hn
          rw [Bool.eq_iff_iff]; simp
        | fn _ => cases hn
        | _ => cases hn; rfl
      · cases hc <;> first | (cases hn; rfl) | cases hn
    rw [this]
    exact k _ H (new_self (.bl _))
end
def dLenS : List D → Option (Bool × D)
  | [.tup ds] => some (false, .int ds.length)
  | [.lst ds] => some (false, .int ds.length)
  | [.scr ns] => some (false, .int ns.length)
  | [.str x] => if x.length ≤ 16777216 then some (false, .int x.length) else none
  | _ => none
def dAbs : List D → Option (Bool × D)
  | [.int i] => some (false, .int (if i < 0 then -i else i))
  | _ => none
def dInt : List D → Option (Bool × D)
  | [.int i] => some (false, .int i)
  | _ => none
def dMax2 : List D → Option (Bool × D)
  | [.int i, .int j] => some (false, .int (if j > i then j else i))
  | _ => none
def dMin2 : List D → Option (Bool × D)
  | [.int i, .int j] => some (false, .int (if j < i then j else i))
  | _ => none
theorem repTs1 {c : Cc} {A : Addr → Prop} {H : Hp} {vs : List V} {d : D} (h : RepTs c A H vs [d]) : ∃ v, vs = [v] ∧ RepT c A H v d := by
  cases h with
  | cons h1 h2 => cases h2; exact ⟨_, rfl, h1⟩
theorem repTs2 {c : Cc} {A : Addr → Prop} {H : Hp} {vs : List V} {d e : D} (h : RepTs c A H vs [d, e]) : ∃ v w, vs = [v, w] ∧ RepT c A H v d ∧ RepT c A H w e := by
  cases h with
  | cons h1 h2 =>
    cases h2 with
    | cons h2 h3 => cases h3; exact ⟨_, _, rfl, h1, h2⟩
section
variable {X : Cx} {c : Cc}
theorem repT_scr {A : Addr → Prop} {H : Hp} {v : V} {ns : List Int} (h : RepT c A H v (.scr ns)) : ∃ a, v = .ref a ∧ SqL c.K H a (ns.map V.int) := by
  rcases h with h | ⟨_, _, _, _, e, _⟩
  · cases h with
    | scr h => exact ⟨_, rfl, h.sqL⟩
  · cases e
theorem gs_len (hK : X.K = c.K) : GSN c dLenS (fun xs H Q => ∃ x n, xs = [x] ∧ LenV X.K x H n ∧ Q (.int n) H) := by
  intro A H xs ds fr d Q h1 e k
  unfold dLenS at e
  split at e
  · cases e
    obtain ⟨v, rfl, h⟩ := repTs1 h1
    obtain ⟨a, us, rfl, h3, h4⟩ := repT_tup h
    exact ⟨_, us.length, rfl, .inr ⟨us, by rw [hK]; exact h3, rfl⟩, by rw [h4.len]; exact k _ H (new_self (.int _))⟩
  · cases e
    obtain ⟨v, rfl, h⟩ := repTs1 h1
    obtain ⟨a, us, rfl, h3, h4⟩ := repT_lst h
    exact ⟨_, us.length, rfl, .inl ⟨us, SqL.of h3, rfl⟩, by rw [h4.len]; exact k _ H (new_self (.int _))⟩
  · cases e
    obtain ⟨v, rfl, h⟩ := repTs1 h1
    obtain ⟨a, rfl, h3⟩ := repT_scr h
    rename_i ns
    exact ⟨_, (ns.map V.int).length, rfl, .inl ⟨_, by rw [hK]; exact h3, rfl⟩, by rw [List.length_map]; exact k _ H (new_self (.int _))⟩
  · split at e
    case isFalse => cases e
    rename_i hl
    cases e
    obtain ⟨v, rfl, h⟩ := repTs1 h1
    have := repT_str h
    subst this
    exact ⟨_, _, rfl, ⟨by rw [sizeLine_eq]; exact hl, rfl⟩, k _ H (new_self (.int _))⟩
  · cases e
theorem gs_abs : GSN c dAbs (fun xs H Q => ∃ i, xs = [.int i] ∧ Q (.int (if i < 0 then -i else i)) H) := by
  intro A H xs ds fr d Q h1 e k
  unfold dAbs at e
  split at e
  case h_2 => cases e
  cases e
  obtain ⟨v, rfl, h⟩ := repTs1 h1
  exact ⟨_, by rw [repT_int h], k _ H (new_self (.int _))⟩
theorem gs_int : GSN c dInt (fun xs H Q => (∃ i, xs = [.int i] ∧ Q (.int i) H) ∨ ∃ k, xs = [.bl k] ∧ Q (.int (if k then 1 else 0)) H) := by
  intro A H xs ds fr d Q h1 e k
  unfold dInt at e
  split at e
  case h_2 => cases e
  cases e
  obtain ⟨v, rfl, h⟩ := repTs1 h1
  exact .inl ⟨_, by rw [repT_int h], k _ H (new_self (.int _))⟩
theorem gs_max2 : GSN c dMax2 (fun xs H Q => ∃ i j, xs = [.int i, .int j] ∧ Q (.int (if j > i then j else i)) H) := by
  intro A H xs ds fr d Q h1 e k
  unfold dMax2 at e
  split at e
  case h_2 => cases e
  cases e
  obtain ⟨v, w, rfl, h, h'⟩ := repTs2 h1
  exact ⟨_, _, by rw [repT_int h, repT_int h'], k _ H (new_self (.int _))⟩
theorem gs_min2 : GSN c dMin2 (fun xs H Q => ∃ i j, xs = [.int i, .int j] ∧ Q (.int (if j < i then j else i)) H) := by
  intro A H xs ds fr d Q h1 e k
  unfold dMin2 at e
  split at e
  case h_2 => cases e
  cases e
  obtain ⟨v, w, rfl, h, h'⟩ := repTs2 h1
  exact ⟨_, _, by rw [repT_int h, repT_int h'], k _ H (new_self (.int _))⟩
end
def dTuple : List D → Option (Bool × D)
  | [.tup ds] => some (false, .tup ds)
  | [.lst ds] => some (false, .tup ds)
  | _ => none
section
variable {X : Cx} {c : Cc}
theorem gs_tuple (hK : X.K = c.K) : GSN c dTuple (fun xs H Q => ∃ p ys, xs = [.ref p] ∧ ((SqL X.K H p ys ∧ ∀ l, H l = none → Q (.ref l) (upd H l (.tup ys))) ∨ (SqT X.K H p ys ∧ Q (.ref p) H))) := by
  intro A H xs ds fr d Q h1 e k
  unfold dTuple at e
  split at e
  · cases e
    obtain ⟨v, rfl, h⟩ := repTs1 h1
    obtain ⟨a, us, rfl, h3, h4⟩ := repT_tup h
    exact ⟨a, us, rfl, .inr ⟨by rw [hK]; exact h3, k _ _ (new_self (.tup h3 h4))⟩⟩
  · cases e
    obtain ⟨v, rfl, h⟩ := repTs1 h1
    obtain ⟨a, us, rfl, h3, h4⟩ := repT_lst h
    exact ⟨a, us, rfl, .inl ⟨SqL.of h3, fun l nl => k _ _ (new_tup nl h4)⟩⟩
  · cases e
end
def dIxS (x y : D) : Option (Bool × D) := match y with
  | .int i => match x with
    | .tup ds => (atI ds i).map fun d => (false, d)
    | .lst ds => (atI ds i).map fun d => (false, d)
    | .scr ns => (atI ns i).map fun n => (false, .int n)
    | _ => none
  | _ => none
section
variable {X : Cx} {c : Cc}
theorem atI_rep {A : Addr → Prop} {H : Hp} {vs : List V} {ds : List D} {i : Int} {d : D} (h : RepL c A H vs ds) (e : atI ds i = some d) : ∃ v, atI vs i = some v ∧ Rep c A H v d := by
  unfold atI at e ⊢
  rw [h.len]
  cases q : ixN ds.length i with
  | none => rw [q] at e; cases e
  | some j =>
    rw [q] at e
    obtain ⟨v, h1, h2⟩ := h.get (show ds[j]? = some d from e)
    exact ⟨v, h1, h2⟩
theorem gs_ix (hK : X.K = c.K) : GS2 c dIxS (rIx X.K) := by
  intro A H x y d1 d2 fr d Q h1 h2 e k
  unfold dIxS at e
  split at e
  case h_2 => cases e
  rename_i i
  have hy := repT_int h2
  split at e
  · rename_i ds
    cases q : atI ds i with
    | none => rw [q] at e; cases e
    | some z =>
      rw [q] at e
      cases e
      obtain ⟨a, us, rfl, h3, h4⟩ := repT_tup h1
      obtain ⟨v, h5, h6⟩ := atI_rep h4 q
      exact .inr (.inl ⟨a, us, i, v, rfl, hy, by rw [hK]; exact h3, h5, k _ H (new_self h6)⟩)
  · rename_i ds
    cases q : atI ds i with
    | none => rw [q] at e; cases e
    | some z =>
      rw [q] at e
      cases e
      obtain ⟨a, us, rfl, h3, h4⟩ := repT_lst h1
      obtain ⟨v, h5, h6⟩ := atI_rep h4 q
      exact .inl ⟨a, us, i, v, rfl, hy, SqL.of h3, h5, k _ H (new_self h6)⟩
  · rename_i ns
    cases q : atI ns i with
    | none => rw [q] at e; cases e
    | some z =>
      rw [q] at e
      cases e
      obtain ⟨a, rfl, h3⟩ := repT_scr h1
      refine .inl ⟨a, ns.map V.int, i, .int z, rfl, hy, by rw [hK]; exact h3, ?_, k _ H (new_self (.int _))⟩
      unfold atI at q ⊢
      rw [List.length_map]
      cases q2 : ixN ns.length i with
      | none => rw [q2] at q; cases q
      | some j =>
        rw [q2] at q
        show (ns.map V.int)[j]? = _
        rw [List.getElem?_map, show ns[j]? = some z from q]
        rfl
  · cases e
end
def cutD (ds : List D) (lo hi : Option Int) : List D := (ds.drop (HT.sIx ds.length 0 lo)).take (HT.sIx ds.length ds.length hi - HT.sIx ds.length 0 lo)
def dSl (lo hi : Option Int) : D → Option (Bool × D)
  | .tup ds => some (false, .tup (cutD ds lo hi))
  | .lst ds => some (true, .lst (cutD ds lo hi))
  | _ => none
def fSlP : Option EF → En → O (Option Int × En)
  | none, ρ => .ok (none, ρ)
  | some f, ρ => (f ρ).bind fun r => match r.2.1 with
    | .int i => .ok (some i, r.2.2)
    | _ => .bad
def fSl (p : Pk) (lo hi : Option EF) : EF := fun ρ => (p.ev ρ).bind fun a => (fSlP lo a.2).bind fun l => (fSlP hi l.2).bind fun h => match p.get a.1 h.2 with
  | some d => match dSl l.1 h.1 d with
    | some r => .ok (r.1, r.2, h.2)
    | none => .bad
  | none => .bad
def liftO (c : Cc) (E : XK) (of : Option EF) : TO := fun σ H Q => ∃ ρ Z B, R c σ H ρ Z B ∧ (fSlP of ρ).sat (fun r => ∀ H', R c σ H' r.2 Z B → Q r.1 H') (XW c E σ Z B)
structure DO (X : Cx) (c : Cc) (E : XK) (e : Option Expr) (of : Option EF) : Prop where
  po : PO X e (liftO c E of)
theorem po_imp {X : Cx} {e : Option Expr} {t t' : TO} (h : PO X e t) (k : ∀ σ H Q, t' σ H Q → t σ H Q) : PO X e t' := ⟨fun pins s σ H Q I q => h.run pins s σ H Q I (k σ H Q q)⟩
section
variable {X : Cx} {c : Cc} {E : XK} {e : Expr} {f : EF} {p : Pk} {lo hi : Option Expr} {fl fh : Option EF} {pos p2 : Pos}
theorem do_none : DO X c E none none := ⟨po_imp po_none fun σ H Q ⟨ρ, Z, B, r, q⟩ => q H r⟩
theorem do_some (h : DE X c E e f) : DO X c E (some e) (some f) := by
  refine ⟨po_imp (po_some h.pe) fun σ H Q ⟨ρ, Z, B, r0, q⟩ => ⟨ρ, Z, B, r0, O.sat_then (o := f ρ) q (fun r hr v H' R' V' => ?_) fun _ _ _ h => h⟩⟩
  split at hr
  case h_2 => exact hr.elim
  rename_i i e1
  have hv : v = .int i := repT_int (.inl (e1 ▸ V'.rep))
  exact ⟨i, hv, hr H' R'⟩
theorem cut_rep {A : Addr → Prop} {H : Hp} {vs : List V} {ds : List D} (h : RepL c A H vs ds) (lo hi : Option Int) : RepL c A H (cutV vs lo hi) (cutD ds lo hi) := by
  unfold cutV cutD
  rw [h.len]
  exact (h.drop _).take _
theorem cutD_all {ds : List D} {lo hi : Option Int} (h : HT.sIx ds.length 0 lo = 0 ∧ HT.sIx ds.length ds.length hi = ds.length) : cutD ds lo hi = ds := by
  unfold cutD
  rw [h.1, h.2, List.drop_zero, Nat.sub_zero, List.take_length]
theorem de_slice (hK : X.K = c.K) (he : DP X c E e p) (hl : DO X c E lo fl) (hh : DO X c E hi fh) : DE X c E (.Subscript e (.Slice lo hi none p2) pos) (fSl p fl fh) := by
  refine ⟨pe_imp (pe_slice (sl_list.or sl_tupA) he.pe hl.po hh.po) fun σ H Q ⟨ρ, Z, B, r0, q⟩ => ⟨ρ, Z, B, r0, O.sat_then (o := p.ev ρ) q (fun a ha v H1 R1 V1 => ?_) fun _ _ _ h => h⟩⟩
  refine ⟨a.2, Z, hull σ a.2 H1, R1.strong, O.sat_then ha (fun l hl' H2 R2 => ?_) fun _ _ _ h => XW.weak R1.hull_le h⟩
  refine ⟨l.2, Z, hull σ a.2 H1, R2, O.sat_then hl' (fun h hh' H3 R3 => ?_) fun _ _ _ h => XW.weak R1.hull_le h⟩
  cases e1 : p.get a.1 h.2 with
  | none => rw [e1] at hh'; exact hh'.elim
  | some d =>
    rw [e1] at hh'
    dsimp only at hh'
    have rt := (V1.keep R1 R3).fin R3 e1
    cases e2 : dSl l.1 h.1 d with
    | none => rw [e2] at hh'; exact hh'.elim
    | some r =>
      rw [e2] at hh'
      have fin : ∀ v H', New c (Av σ h.2 Z) H3 H' r.1 v r.2 → Q v H' := fun v H' n => by
        obtain ⟨k1, k2⟩ := (R3.weak R1.hull_le).new n
        exact hh' v H' k1 k2
      unfold dSl at e2
      split at e2
      · rename_i ds
        cases e2
        obtain ⟨b, us, rfl, h3, h4⟩ := repT_tup rt
        refine .inr ⟨b, us, rfl, by rw [hK]; exact h3, fun hw => ?_, fun _ q np => ?_⟩
        · rw [h4.len] at hw
          have := fin (.ref b) H3 (new_self (d := .tup (cutD ds l.1 h.1)) (by rw [cutD_all hw]; exact .tup h3 h4))
          exact this
        · exact fin _ _ (new_tup np (cut_rep h4 _ _))
      · rename_i ds
        cases e2
        obtain ⟨b, us, rfl, h3, h4⟩ := repT_lst rt
        exact .inl ⟨b, us, rfl, SqL.of h3, fun q np => fin _ _ (new_lst np (cut_rep h4 _ _))⟩
      · cases e2
end
end U
namespace U
set_option autoImplicit false
open PySem PySem.Spec PyProof.Rows L2
section
variable {prog : Program} {w : World} {A : Around} {E : Value → Shared → Prop} {s : Shared}
end
section
variable {X : Cx} {c : Cc} {E : XK} {e : Expr} {p : Pk} {pos : Pos}
end
def D.ty : D → Option String
  | .non => some "NoneType"
  | .bl _ => some "bool"
  | .int _ => some "int"
  | .str _ => some "str"
  | .tup _ => some "tuple"
  | .lst _ => some "list"
  | .scr _ => none
  | _ => none
def isTy (T : String) (t : String) : Bool := t == T || (t == "bool" && T == "int")
def dIsi (T : String) (d : D) : Option (Bool × D) := d.ty.map fun t => (false, .bl (isTy T t))
section
variable {X : Cx} {c : Cc} {E : XK} {e : Expr} {p : Pk}
theorem tyX_of {A : Addr → Prop} {H : Hp} {v : V} {d : D} {t : String} (h : RepT c A H v d) (e : d.ty = some t) : TyX c.K H v (.type t) := by
  rcases h with h | ⟨a, ds, xs, rfl, h1, h2⟩
  · cases h with
    | non => cases e; exact .base .non
    | bl b => cases e; exact .base (.bl b)
    | int i => cases e; exact .base (.int i)
    | str x => cases e; exact .base (.str x)
    | tup h1 h2 =>
      cases e
      rcases h1 with (h1 | ⟨o, h1⟩) | ⟨o, its, n, h1, h2, _⟩
      · exact .base (.tup h1)
      · exact .fTuple h1
      · exact .kTuple h1 h2
    | lst h1 h2 h3 => cases e; exact .base (.lst h1)
    | dicK _ _ _ _ => cases e
    | dicT _ _ _ _ _ _ => cases e
    | fn h => cases e
    | scr h => cases e
  · cases h1 with
    | lst h1 => cases e; exact .base (.lst h1)
    | dicK _ _ => cases e
    | dicT _ _ _ => cases e
theorem kit_is {K : PySem.W.Frag} {T : String} (hT : ∀ t ∈ ["NoneType", "bool", "int", "str", "tuple", "list"], kitB t T = some (isTy T t)) {d : D} {t : String} (e : d.ty = some t) : PySem.W.kitOne K (.type t) (.type T) = some (isTy T t) := by
  refine kit_ty (hT t ?_)
  cases d <;> first | (cases e; simp; done) | cases e
theorem de_isi {T : Str} {Ts : String} {p1 p2 p3 : Pos} (he : DP X c E e p) (hK : X.K = c.K) (hg : Gl X "isinstance") (hm : X.mg "isinstance" = none) (hgT : Gl X T) (hmT : X.mg T = none) (hv : bootBuiltins T = some (.type Ts)) (hn : T ≠ "__name__")
    (hT : ∀ t ∈ ["NoneType", "bool", "int", "str", "tuple", "list"], kitB t Ts = some (isTy Ts t)) (hd : (T == ("__debug__" : Str)) = false)
    (hs : starEach [e, .Name T p2] X.env = (false, eval e X.env) :: starEach [.Name T p2] X.env := by rfl) (hs2 : starEach [.Name T p2] X.env = (false, eval (.Name T p2) X.env) :: starEach [] X.env := by rfl) (hpl : (backTo p3 (starEach [.Name T p2] X.env)).any (·.1) = false := by rfl) :
    DE X c E (.Call (.Name "isinstance" p1) [e, .Name T p2] [] p3) (op1 (dIsi Ts) p) := by
  refine ⟨pe_imp (pe_callB call_isi hg hm (by decide +kernel) (pa_cons he.pe (pa_cons (pe_bltn (v := .ty Ts) hgT hmT hv rfl hn hd) pa_nil hs2) hs) (by decide) (by decide) hs hpl) fun σ H Q ⟨ρ, Z, B, r0, h⟩ => ?_⟩
  refine ⟨ρ, Z, B, r0, O.sat_then (o := p.ev ρ) h (fun a ha v H1 R1 V1 => ?_) fun _ _ _ h => h⟩
  cases e1 : p.get a.1 a.2 with
  | none => rw [e1] at ha; exact ha.elim
  | some d =>
    rw [e1] at ha
    dsimp only at ha
    cases e2 : d.ty with
    | none => rw [show dIsi Ts d = none by unfold dIsi; rw [e2]; rfl] at ha; exact ha.elim
    | some t =>
      rw [show dIsi Ts d = some (false, .bl (isTy Ts t)) by unfold dIsi; rw [e2]; rfl] at ha
      refine ⟨v, .ty Ts, .type t, .type Ts, isTy Ts t, rfl, ?_, by rw [hK]; exact tyX_of (V1.fin R1 e1) e2, kit_is hT e2, ha _ H1 R1 (.bl _)⟩
      first | exact rfl | constructor | exact .ty _
end
end U
namespace U
set_option autoImplicit false
open PySem PySem.Spec PyProof.Rows L2
def seqOf : D → Option (List D)
  | .tup ds => some ds
  | .lst ds => some ds
  | .scr ns => some (ns.map .int)
  | _ => none
def fItS (f : EF) : IF := fun ρ => (f ρ).bind fun r => match seqOf r.2.1 with
  | some ds => .ok (ds, r.2.2)
  | none => .bad
section
variable {c : Cc} {σ : St} {H : Hp} {ρ : En} {Z : Addr → Prop} {J : It} {G : Hp → Prop} {xs : List V} {ds : List D}
theorem iok_at (wk : Walk J xs.length G (YAt xs)) (hG : ∀ H2, (∀ b o, hull σ ρ H b = some o → H2 b = some o) → G H2) (rl : RepL c (Av σ ρ Z) H xs ds) : IOk c σ H ρ Z J ds := by
  have hl := rl.len
  refine ⟨G, YAt xs, by rw [← hl]; exact wk, hG, fun i H2 x H3 hi _ y => ?_⟩
  obtain ⟨e1, e2⟩ := y
  subst e1
  refine ⟨Same.refl _, ?_⟩
  obtain ⟨d, h1, h2⟩ := rl.getV e2
  exact ⟨d, h1, fun A2 k => k x d h2⟩
theorem repL_ints {A : Addr → Prop} : ∀ ns : List Int, RepL c A H (ns.map V.int) (ns.map D.int)
  | [] => .nil
  | n :: ns => .cons (.int n) (repL_ints ns)
end
section
variable {X : Cx} {c : Cc} {E : XK} {tg e : Expr} {f : EF}
theorem hull_keep {c : Cc} {σ : St} {H H2 : Hp} {ρ : En} {Z : Addr → Prop} {B : Hp} {a : Addr} {o : HO} (r : R c σ H ρ Z B) (s : ∀ b o, hull σ ρ H b = some o → H2 b = some o) (h : H a = some o) (n : ¬ Cl o) : H2 a = some o :=
  s _ _ (by rw [hull_not fun z => by obtain ⟨ys, z, cl⟩ := r.ownL z; rw [h] at z; cases z; exact n cl]; exact h)
theorem hull_sqT {K : PySem.W.Frag} {c : Cc} {σ : St} {H H2 : Hp} {ρ : En} {Z : Addr → Prop} {B : Hp} {a : Addr} {xs : List V} (r : R c σ H ρ Z B) (s : ∀ b o, hull σ ρ H b = some o → H2 b = some o) (h : SqT K H a xs) : SqT K H2 a xs := by
  rcases h with (h1 | ⟨o, h1⟩) | h1
  · exact .inl (.inl (hull_keep r s h1 fun z => z))
  · exact .inl (.inr ⟨o, hull_keep r s h1 fun z => z⟩)
  · exact .inr h1
def D.isTup : D → Bool
  | .tup _ => true
  | _ => false
theorem rep_seqL {c : Cc} {A : Addr → Prop} {H : Hp} {v : V} {d : D} {ds : List D} (h : Rep c A H v d) (e : seqOf d = some ds) (n : d.isTup = false) : ∃ a xs, v = .ref a ∧ RepL c A H xs ds ∧ (H a = some (.lst xs) ∧ ¬ A a ∨ SqF c.K H a xs) := by
  cases d with
  | tup ds => cases n
  | lst ds' =>
    cases e
    cases h with
    | lst h1 h2 h3 => exact ⟨_, _, rfl, h3, .inl ⟨h1, h2⟩⟩
  | scr ns =>
    cases e
    cases h with
    | scr h1 => exact ⟨_, _, rfl, repL_ints ns, .inr h1⟩
  | non => cases e
  | bl b => cases e
  | int i => cases e
  | str x => cases e
  | dic ks vs => cases e
  | fn x => cases e
  | exc k x => cases e
theorem rep_seqT {c : Cc} {A : Addr → Prop} {H : Hp} {v : V} {d : D} {ds : List D} (h : Rep c A H v d) (e : seqOf d = some ds) (n : d.isTup = true) : ∃ a xs, v = .ref a ∧ RepL c A H xs ds ∧ SqT c.K H a xs := by
  cases d with
  | tup ds' =>
    cases e
    cases h with
    | tup h1 h2 => exact ⟨_, _, rfl, h2, h1⟩
  | lst _ => cases n
  | scr _ => cases n
  | non => cases n
  | bl b => cases n
  | int i => cases n
  | str x => cases n
  | dic ks vs => cases n
  | fn x => cases n
  | exc k x => cases n
theorem sqL_of {K : PySem.W.Frag} {H : Hp} {A : Addr → Prop} {a : Addr} {xs : List V} (h : H a = some (.lst xs) ∧ ¬ A a ∨ SqF K H a xs) : SqL K H a xs := by
  rcases h with ⟨h, _⟩ | h
  · exact .inl (.inl h)
  · exact h.sqL
theorem hull_sqL {K : PySem.W.Frag} {c : Cc} {σ : St} {H H2 : Hp} {ρ : En} {Z : Addr → Prop} {B : Hp} {a : Addr} {xs : List V} (r : R c σ H ρ Z B) (s : ∀ b o, hull σ ρ H b = some o → H2 b = some o)
    (h : H a = some (.lst xs) ∧ ¬ Av σ ρ Z a ∨ SqF K H a xs) : SqL K H2 a xs := by
  rcases h with ⟨h1, h2⟩ | h1
  · exact .inl (.inl (s _ _ (by rw [hull_not fun z => h2 (.inr z)]; exact h1)))
  · exact (h1.keep fun a o u h => hull_keep r s h fun z => z).sqL
theorem di_valS (hK : X.K = c.K) (h : DE X c E e f) : DI X c E tg e (fItS f) := by
  refine ⟨pi_imp (pi_or (pi_list h.pe) (pi_tup h.pe)) fun σ H Rr ⟨ρ, Z, B, r0, q⟩ => ?_⟩
  by_cases ht : (match f ρ with | .ok r => r.2.1.isTup | _ => false) = true
  · refine .inr ⟨ρ, Z, B, r0, ?_⟩
    unfold fItS at q
    cases hf : f ρ with
    | ok a =>
      rw [hf] at q ht
      obtain ⟨fr, d, ρ1⟩ := a
      intro v H1 r1 v1
      dsimp only [O.bind] at q ht
      cases hs : seqOf d with
      | none => rw [hs] at q; exact q.elim
      | some ds =>
        rw [hs] at q
        obtain ⟨a, xs, e1, e2, e3⟩ := rep_seqT v1.rep hs ht
        rw [← hK] at e3
        exact ⟨a, e1, ⟨xs, e3⟩, q _ H1 r1 (iok_at walk_tup (fun H2 s => hull_sqT r1 s e3) e2)⟩
    | ex k d ρ' => rw [hf] at q; exact q
    | bad => rw [hf] at q; exact q
  · refine .inl ⟨ρ, Z, B, r0, ?_⟩
    unfold fItS at q
    cases hf : f ρ with
    | ok a =>
      rw [hf] at q ht
      obtain ⟨fr, d, ρ1⟩ := a
      intro v H1 r1 v1
      dsimp only [O.bind] at q ht
      cases hs : seqOf d with
      | none => rw [hs] at q; exact q.elim
      | some ds =>
        rw [hs] at q
        obtain ⟨a, xs, e1, e2, e3⟩ := rep_seqL v1.rep hs (by simpa using ht)
        rw [← hK] at e3
        exact ⟨a, e1, ⟨xs, sqL_of e3⟩, q _ H1 r1 (iok_at walk_list (fun H2 s => hull_sqL r1 s e3) e2)⟩
    | ex k d ρ' => rw [hf] at q; exact q
    | bad => rw [hf] at q; exact q
end
def rgD (lo c : Int) (n : Nat) : List D := (List.range n).map fun i => .int (lo + (i : Nat) * c)
def small62 (i : Int) : Bool := decide (i.natAbs < 4611686018427387904)
def rg1 : List D → Option (List D)
  | [.int j] => if small62 j then some (rgD 0 1 j.toNat) else none
  | _ => none
def fRg (g : List D → Option (List D)) (ps : List Pk) : IF := fun ρ => (Pk.evs ps ρ).bind fun a => match Pk.gets ps a.1 a.2 with
  | some ds => match g ds with
    | some r => .ok (r, a.2)
    | none => .bad
  | none => .bad
theorem iok_fn {c : Cc} {σ : St} {H : Hp} {ρ : En} {Z : Addr → Prop} {J : It} {n : Nat} {lo k : Int} (wk : Walk J n (fun _ => True) (YFn fun i => .int (lo + (i : Nat) * k))) : IOk c σ H ρ Z J (rgD lo k n) := by
  refine ⟨fun _ => True, YFn fun i => .int (lo + (i : Nat) * k), by unfold rgD; rw [List.length_map, List.length_range]; exact wk, fun _ _ => trivial, fun i H2 x H3 hi _ y => ?_⟩
  obtain ⟨e1, e2⟩ := y
  subst e1; subst e2
  refine ⟨Same.refl _, .int (lo + (i : Nat) * k), ?_, fun A2 _ => .int _⟩
  unfold rgD at hi ⊢
  rw [List.length_map, List.length_range] at hi
  rw [List.getElem?_map, List.getElem?_range hi]
  rfl
section
variable {X : Cx} {c : Cc} {E : XK} {tg e a b s : Expr} {ps : List Pk} {p pos : Pos}
theorem small62_of {i : Int} (h : small62 i = true) : -(2 ^ 62) ≤ i ∧ i < 2 ^ 62 := by
  unfold small62 at h
  have := of_decide_eq_true h
  exact ⟨by omega, by omega⟩
theorem walk_rg {lo : Int} {n : Nat} : Walk (Itr lo n) n (fun _ => True) (YFn fun i => .int (lo + (i : Nat) * 1)) :=
  (walk_range (lo := lo) (n := n)).mono (fun _ h => h) fun i H x H' _ _ y => ⟨y.1, y.2.trans (by show V.int (lo + (i : Nat)) = V.int (lo + (i : Nat) * 1); rw [Int.mul_one])⟩
theorem di_rg1 (ha : DPs X c E [a] ps) (hg : Gl X "range" := by rfl) (hm : X.mg "range" = none := by rfl) (hs : starEach [a] X.env = [(false, eval a X.env)] := by rfl) : DI X c E tg (.Call (.Name "range" p) [a] [] pos) (fRg rg1 ps) := by
  refine ⟨pi_imp (pi_range1 hg hm ha.pa hs) fun σ H Rr ⟨ρ, Z, B, r0, h⟩ => ?_⟩
  refine ⟨ρ, Z, B, r0, O.sat_then (o := Pk.evs ps ρ) h (fun a ha v1 H1 r1 pv1 => ?_) fun _ _ _ h => h⟩
  cases e1 : Pk.gets ps a.1 a.2 with
  | none => rw [e1] at ha; exact ha.elim
  | some x =>
    rw [e1] at ha
    dsimp only at ha
    have rt := pv1.fin r1 e1
    unfold rg1 at ha
    split at ha
    case h_2 => exact ha.elim
    rename_i w hw
    split at hw
    case h_2 => cases hw
    rename_i j
    split at hw
    case isFalse => cases hw
    rename_i hj
    cases hw
    obtain ⟨v, rfl, hv⟩ := repTs1 rt
    cases repT_int hv
    exact ⟨j, rfl, (small62_of hj).1, (small62_of hj).2, ha _ H1 r1 (iok_fn walk_rg)⟩
end
theorem iok_pair {c : Cc} {σ : St} {H : Hp} {ρ : En} {Z : Addr → Prop} {J : It} {G : Hp → Prop} {n : Nat} {f g : Nat → Option V} {f' g' : Nat → Option D} (wk : Walk J n G (YPair f g)) (hG : ∀ H2, (∀ b o, hull σ ρ H b = some o → H2 b = some o) → G H2)
    (hf : ∀ i v, f i = some v → ∃ d, f' i = some d ∧ Rep c (Av σ ρ Z) H v d) (hg : ∀ i v, g i = some v → ∃ d, g' i = some d ∧ Rep c (Av σ ρ Z) H v d) (ds : List D) (hn : ds.length = n)
    (hd : ∀ i x y, i < n → f' i = some x → g' i = some y → ds[i]? = some (.tup [x, y])) : IOk c σ H ρ Z J ds := by
  refine ⟨G, YPair f g, by rw [hn]; exact wk, hG, fun i H2 x H3 hi _ y => ?_⟩
  obtain ⟨T, a, b, rfl, hT, rfl, e1, e2⟩ := y
  obtain ⟨d1, k1, k2⟩ := hf i a e1
  obtain ⟨d2, l1, l2⟩ := hg i b e2
  refine ⟨same_new hT, .tup [d1, d2], hd i d1 d2 (by omega) k1 l1, fun A2 k => ?_⟩
  exact .tup (.inl (.inl upd_same)) (.cons (Rep.same (same_new hT) (k _ _ k2)) (.cons (Rep.same (same_new hT) (k _ _ l2)) .nil))
theorem meets_enumerate_newT (l : Addr) (items : Array Value) (n : Nat) (dct : Option Addr) (sl : Array (Option Value)) :
    Meets (Builtin.«enumerate.__new__» ⟨[.type "enumerate", .ref l], []⟩) (fun _ R s => s.heap.get? l = some { cls := .type "tuple", dict := dct, data := .seq items n, slots := sl } ∧
      R (.ok (.ret (.ref (s.heap.push { cls := .type "tuple_iterator", data := .fields #[.ref l, .int 0 0] }).objs.size)))
        { s with heap := (s.heap.push { cls := .type "tuple_iterator", data := .fields #[.ref l, .int 0 0] }).push { cls := .type "enumerate", data := .fields #[.none, .bool false, .ref s.heap.objs.size, rawInt 0, .none, .none] } }) :=
  .of_wp fun prog w A R s h => by
    obtain ⟨hp, g, d, tk, os⟩ := s; obtain ⟨hl, h⟩ := h
    have hsub := sub_enumerate
    have hL : Heap.IsTuple (Shared.heap ⟨hp, g, d, tk, os⟩) l items := ⟨_, hl, rfl, _, rfl⟩
    wp_walk using AutoSeq1.wpAny_loadPart' hl
    refine wpAny_stack_any fun st => wpAny_pure ?_
    split
    · rename_i c _ _ _ _ _
      cases (c == Value.type "enumerate")
      · wp_walk using AutoSeq1.wpAny_loadPart' hl, wpAny_pyIter_tuple hL
        exact ⟨_, rfl, h⟩
      · wp_walk using AutoSeq1.wpAny_loadPart' hl, wpAny_pyIter_tuple hL
        exact ⟨_, rfl, h⟩
    · wp_walk using AutoSeq1.wpAny_loadPart' hl, wpAny_pyIter_tuple hL
      exact ⟨_, rfl, h⟩
theorem call_enumerate_tuple {prog : Program} {w : World} {A : Around} {E : Value → Shared → Prop} {s : Shared} {l : Addr} {items : Array Value} {Q : Value → Shared → Prop} (hL : s.heap.IsTuple l items)
    (h : ∀ h', IsEnum h' (s.heap.objs.size + 1) s.heap.objs.size 0 .none → h'.IsTupleIter s.heap.objs.size l 0 → h'.objs.size = s.heap.objs.size + 2 →
      (∀ b o, s.heap.get? b = some o → h'.get? b = some o) → Q (.ref (s.heap.objs.size + 1)) { s with heap := h' }) :
    wpAny (model prog w) A (call (.type "enumerate") [.ref l]) Q E s := by
  obtain ⟨⟨c, dct, dt, sl⟩, hl, hc, n, hd⟩ := hL
  replace hc : c = .type "tuple" := hc
  replace hd : dt = .seq items n := hd
  subst hc hd
  refine callType_new F.called_enumerate (by decide) (F.typeCall_enumerate_1 _) (F.newCall_enumerate_1 _) (fun obj => F.args_object_init_2 obj _) F.entry_enumerate_new
    (meets_enumerate_newT l items n dct sl) ⟨hl, ?_⟩
  have hz : (s.heap.push { cls := .type "tuple_iterator", data := .fields #[.ref l, .int 0 0] }).objs.size = s.heap.objs.size + 1 := Heap.size_push ..
  show _ ∧ _
  rw [hz]
  have he : IsEnum ((s.heap.push { cls := .type "tuple_iterator", data := .fields #[.ref l, .int 0 0] }).push
      { cls := .type "enumerate", data := .fields #[.none, .bool false, .ref s.heap.objs.size, rawInt 0, .none, .none] }) (s.heap.objs.size + 1) s.heap.objs.size 0 .none := by
    have := Heap.get?_push_size (s.heap.push { cls := .type "tuple_iterator", data := .fields #[.ref l, .int 0 0] })
      (o := { cls := .type "enumerate", data := .fields #[.none, .bool false, .ref s.heap.objs.size, rawInt 0, .none, .none] }) rfl
    rw [hz] at this; exact this
  refine ⟨⟨_, he, rfl⟩, h _ he ⟨_, Heap.get?_push_of_some _ (Heap.get?_push_size _ rfl), rfl, rfl⟩ (by rw [Heap.size_push, hz]) fun b o x => Heap.get?_push_of_some _ (Heap.get?_push_of_some _ x)⟩
def IteT (K : PySem.W.Frag) (a : Addr) : It :=
  ⟨fun i H => ∃ (xs : List V) (x : V), SqT K H a xs ∧ xs[i]? = some x, fun i H v H' => ∃ T x, v = .ref T ∧ H T = none ∧ H' = upd H T (.tup [.int (i : Nat), x]) ∧ ∀ xs, SqT K H a xs → xs[i]? = some x, fun i H => ∃ xs : List V, SqT K H a xs ∧ xs.length ≤ i⟩
theorem turn_enumT {P : Program} {w : World} {K : PySem.W.Frag} {elts : List Expr} {kk : Nat} {tpos : Pos} (a e it : Addr) :
    Turn P w K (.Tuple elts kk tpos) (IteT K a) [e, it] e (fun i h => (∃ old, IsEnum h e it ((i : Nat) : Int) old) ∧ h.IsTupleIter it a i ∧ e ≠ it) where
  mem := by simp
  obj := fun i h st b hb => by
    obtain ⟨⟨old, he⟩, ⟨o, ho, hc, hd⟩, _⟩ := st
    have e' : b = e ∨ b = it := by simpa using hb
    rcases e' with z | z
    · rw [z]; exact ⟨_, he, fun v q => nomatch q⟩
    · rw [z]; exact ⟨o, ho, fun v q => by rw [hd] at q; cases q⟩
  keep := fun i h h' st k => let ⟨⟨old, he⟩, hi, hne⟩ := st; ⟨⟨old, k e (by simp) _ he⟩, hi.at fun o q => k it (by simp) o q, hne⟩
  item := by
    intro X hP hw hK hc i pins s σ H E I hf st hg
    subst hP hw hK
    obtain ⟨⟨old, he⟩, hit, hne⟩ := st
    obtain ⟨xs, x, hq, hx⟩ := hg
    obtain ⟨its, rv, p, hz⟩ := I.tuple hq
    obtain ⟨u, hu, ru⟩ := rv.get hx
    have hel : e < s.heap.objs.size := Heap.lt_size he
    have hil : it < s.heap.objs.size := by obtain ⟨_, q, _⟩ := hit; exact Heap.lt_size q
    have p' : s.heap.IsTuple a its.toArray := p
    have hat : a ≠ it := fun z => by
      obtain ⟨o, h1, h2, _⟩ := p'
      obtain ⟨o', h3, h4, _⟩ := hit
      rw [z, h3] at h1; cases h1
      rw [h4] at h2
      exact absurd h2 (by intro z; injection z with z; exact absurd z (by decide))
    have hea : e ∉ [it, a] := fun z => by
      have z' : e = it ∨ e = a := by simpa using z
      rcases z' with z' | z'
      · exact hne z'
      · obtain ⟨o, h1, h2, _⟩ := p'
        rw [← z'] at h1
        have h3 : s.heap.get? e = some _ := he
        rw [h3] at h1; cases h1
        exact absurd h2 (by intro z; injection z with z; exact absurd z (by decide))
    have hlt : i < its.toArray.size := by
      have := rv.length
      have hx' : i < xs.length := by
        by_cases k : i < xs.length
        · exact k
        · rw [List.getElem?_eq_none (by omega)] at hx; cases hx
      simpa using by omega
    refine wpAny_pyNext_enum_itemD (Draws.tuple (A := X.A.in1) (show X.A.in1.handled = none from I.ok.hd hc) it a hat its.toArray) he ⟨hit, p'⟩ hlt hne hea fun y h' tk hy ho hit' hT hsz hk => ?_
    have hyu : y = u := by
      have hu' : its.toArray[i]? = some u := by simpa using hu
      rw [hu'] at hy
      exact (Option.some.inj hy).symm
    subst hyu
    refine ⟨_, rfl, wpAny_letOwnedTupleGo_enum (s := { s with heap := h', toks := tk + 1 }) ho fun h'' he' sb => ?_⟩
    have hT2 : h''.get? s.heap.objs.size = some { cls := .type "tuple", data := .seq #[.int i tk, y] } := (sb.2 _ (Nat.ne_of_gt hel)).trans hT
    have new : ObjOk X.prog X.w (upd H s.heap.objs.size (.tup [.int (i : Nat), x])) h'' s.heap.objs.size (.tup [.int (i : Nat), x]) :=
      ⟨by show 2 ≤ sizeLine; decide, [.int i tk, y], .cons ⟨_, rfl⟩ (.cons ru .nil), ⟨_, hT2, rfl, _, rfl⟩⟩
    have I1 : Inv X pins σ (upd H s.heap.objs.size (.tup [.int (i : Nat), x])) { s with heap := h'', toks := tk + 1 } :=
      I.turnedNew (ch := [e, it]) (fun b ob hb q => (sb.2 b (fun z => hb (by simp [z]))).trans (hk b ob (fun z => hb (by simp [z])) (fun z => hb (by simp [z])) q)) hf (Nat.le_refl _) new
    refine ⟨.ref s.heap.objs.size, _, I1, rfl, ⟨_, x, rfl, I.hok.fresh (Nat.le_refl _), rfl, fun ys hy => by rw [I.tuple_inj hy hq]; exact hx⟩, ⟨⟨y, ?_⟩, hit'.1.at fun o q => (sb.2 it (Ne.symm hne)).trans q, hne⟩, fun b hb => ?_⟩
    · have e1 : ((i + 1 : Nat) : Int) = (i : Int) + 1 := by omega
      rw [e1]; exact he'
    · have hb' : b < s.heap.objs.size := by
        have e' : b = e ∨ b = it := by simpa using hb
        rcases e' with z | z
        · rw [z]; exact hel
        · rw [z]; exact hil
      rw [upd_ne (Nat.ne_of_lt hb')]
      exact (hf b hb).1
  done := by
    intro X hP hw hK hc i pins s σ H E I hf st hg
    subst hP hw hK
    obtain ⟨⟨old, he⟩, hit, hne⟩ := st
    obtain ⟨xs, hq, hx⟩ := hg
    obtain ⟨its, rv, p, hz⟩ := I.tuple hq
    obtain ⟨f0, f1, f2, f3, f4, f5⟩ := hf it (by simp)
    have hl := rv.length
    have p' : s.heap.IsTuple a its.toArray := p
    unfold pyNext
    have hT : s.TypeIs (.ref e) "enumerate" := ⟨_, he, rfl⟩
    refine wpAny_bind (wpAny_attempt (wpAny_callSpecial?_slot (name := Str.ofString "__next__") hT F.slot_enumerate_next
      (wpAny_call_entry F.slot_enumerate_next hT F.entry_enumerate_next ?_ (F.args_enumerate_next_1 _))))
    show wpAny _ _ (field (.ref e) 2 >>= _) _ _ _
    refine wpAny_bind (wpAny_field he rfl (x := .ref it) rfl ?_)
    refine wpAny_bind (wpAny_nextOf_tuple_end (I.ok.hd hc) hit p' (by simp; omega) fun h' x he' hx' => ?_)
    obtain ⟨o, ho, hc⟩ := hx'
    refine wpAny_bind (wpAny_isInstance (T := "StopIteration") (b := true) ⟨o, ho, hc⟩ isSubtype_stop ?_)
    exact wpAny_pure ⟨rfl, I.turned (t' := s.toks) (fun b o hb q => he' b o hb q) f0 f1 f3 f4 f5⟩
  self := fun A i s Q E st h => let ⟨⟨_, he⟩, _⟩ := st; wpAny_pyIter_enum he h
def iEnumT (K : PySem.W.Frag) (ta : TA) : TI := fun σ H R => ta σ H fun vs H1 => ∃ a xs, vs = [.ref a] ∧ SqT K H1 a xs ∧ R (IteT K a) H1
theorem pi_enumT {X : Cx} {e : Expr} {ta : TA} {p pos tpos : Pos} {elts : List Expr} {kk : Nat} (hg : Gl X "enumerate") (hm : X.mg "enumerate" = none) (ha : PA X [e] ta) (hs : starEach [e] X.env = [(false, eval e X.env)] := by rfl) :
    PI X (.Tuple elts kk tpos) (.Call (.Name "enumerate" p) [e] [] pos) (iEnumT X.K ta) := by
  refine ⟨fun pins s σ H R I h => ?_⟩
  refine Call_ (ld_blt I hg hm boot_enumerate (PyProof.Rows.callWith_type1 (thn (ha.run pos pins s σ H _ I h) fun us s1 ⟨vs, H1, I1, r1, q1⟩ => ?_) hs rfl))
  obtain ⟨a, xs, ex, hq, q⟩ := q1
  subst ex
  cases r1 with
  | cons r rr =>
    cases rr
    cases r
    obtain ⟨its, rv, p', hz⟩ := I1.tuple hq
    refine call_enumerate_tuple (show s1.heap.IsTuple a its.toArray from p') fun h' he hit hsz hk => wpAny_pyIter_enum he ?_
    have I2 : Inv X pins σ H1 { s1 with heap := h' } := I1.kept (t' := s1.toks) hk
    refine ⟨s1.heap.objs.size + 1, [s1.heap.objs.size + 1, s1.heap.objs.size], _, _, H1, rfl, I2, turn_enumT a (s1.heap.objs.size + 1) s1.heap.objs.size, ⟨⟨.none, he⟩, hit, Nat.succ_ne_self _⟩, fun b hb => ?_, q⟩
    have e' : b = s1.heap.objs.size + 1 ∨ b = s1.heap.objs.size := by simpa using hb
    have hle : s1.heap.objs.size ≤ b := by
      rcases e' with z | z
      · rw [z]; exact Nat.le_add_right _ _
      · rw [z]; exact Nat.le_refl _
    exact I1.fpOk hle (I1.hok.fresh hle)
theorem walk_enumT {K : PySem.W.Frag} {a : Addr} {xs : List V} : Walk (IteT K a) xs.length (fun H => SqT K H a xs) (YPair (fun i => some (.int (i : Nat))) (fun i => xs[i]?)) := by
  refine ⟨fun i _ hi q => ⟨xs, xs[i], q, by simp [hi]⟩, fun _ q => ⟨xs, q, Nat.le_refl _⟩, fun i H v H' _ q y => ?_⟩
  obtain ⟨T, x, h1, h2, h3, h4⟩ := y
  exact ⟨T, .int (i : Nat), x, h1, h2, h3, rfl, h4 xs q⟩
theorem walk_zipT {K : PySem.W.Frag} {a b : Addr} {xs ys : List V} {n : Nat} (hn : n = min xs.length ys.length) : Walk (RZ.ItzT K a b) n (fun H => SqT K H a xs ∧ SqT K H b ys) (YPair (fun i => xs[i]?) (fun i => ys[i]?)) := by
  subst hn
  refine ⟨fun i _ hi q => ?_, fun _ q => ⟨xs, ys, q.1, q.2, by omega⟩, fun i H v H' _ q y => ?_⟩
  · have h1 : i < xs.length := by omega
    have h2 : i < ys.length := by omega
    exact ⟨xs, ys, xs[i], ys[i], q.1, q.2, by simp [h1], by simp [h2]⟩
  · obtain ⟨T, x, z, h1, h2, h3, h4, h5⟩ := y
    exact ⟨T, x, z, h1, h2, h3, h4 xs q.1, h5 ys q.2⟩
def enD (i : Nat) : List D → List D
  | [] => []
  | d :: ds => .tup [.int (i : Nat), d] :: enD (i + 1) ds
def zpD : List D → List D → List D
  | d :: ds, e :: es => .tup [d, e] :: zpD ds es
  | _, _ => []
theorem enD_len : ∀ (ds : List D) (i : Nat), (enD i ds).length = ds.length
  | [], _ => rfl
  | d :: ds, i => by rw [enD, List.length_cons, enD_len ds, List.length_cons]
theorem enD_get : ∀ (ds : List D) (i j : Nat) (d : D), ds[j]? = some d → (enD i ds)[j]? = some (.tup [.int ((i + j : Nat) : Int), d])
  | [], _, _, _, h => by simp at h
  | d :: ds, i, 0, e, h => by simp at h; subst h; rfl
  | d :: ds, i, j + 1, e, h => by
    have := enD_get ds (i + 1) j e (by simpa using h)
    rw [enD, List.getElem?_cons_succ, this]
    have e : i + 1 + j = i + (j + 1) := by omega
    rw [e]
theorem zpD_len : ∀ (ds es : List D), (zpD ds es).length = min ds.length es.length
  | [], _ => by simp [zpD]
  | _ :: _, [] => by simp [zpD]
  | d :: ds, e :: es => by rw [zpD, List.length_cons, zpD_len ds es, List.length_cons, List.length_cons]; omega
theorem zpD_get : ∀ (ds es : List D) (j : Nat) (d e : D), ds[j]? = some d → es[j]? = some e → (zpD ds es)[j]? = some (.tup [d, e])
  | [], _, _, _, _, h, _ => by simp at h
  | _ :: _, [], _, _, _, _, h => by simp at h
  | d :: ds, e :: es, 0, d', e', h, h' => by simp at h h'; subst h; subst h'; rfl
  | d :: ds, e :: es, j + 1, d', e', h, h' => zpD_get ds es j d' e' (by simpa using h) (by simpa using h')
def fEnum (f : EF) : IF := fun ρ => (evA [f] ρ).bind fun r => match r.1 with
  | [d] => match seqOf d with
    | some ds => .ok (enD 0 ds, r.2)
    | none => .bad
  | _ => .bad
def fZip (f g : EF) : IF := fun ρ => (evA [f, g] ρ).bind fun r => match r.1 with
  | [d, e] => match seqOf d, seqOf e with
    | some ds, some es => if d.isTup == e.isTup then .ok (zpD ds es, r.2) else .bad
    | _, _ => .bad
  | _ => .bad
section
variable {X : Cx} {c : Cc} {E : XK} {e a b : Expr} {f g : EF} {p pos tpos : Pos} {elts : List Expr} {kk : Nat}
theorem di_enum (hK : X.K = c.K) (h : DA X c E [e] [f]) (hg : Gl X "enumerate" := by rfl) (hm : X.mg "enumerate" = none := by rfl) (hs : starEach [e] X.env = [(false, eval e X.env)] := by rfl) : DI X c E (.Tuple elts kk tpos) (.Call (.Name "enumerate" p) [e] [] pos) (fEnum f) := by
  refine ⟨pi_imp (pi_or (pi_enum hg hm h.pa hs) (pi_enumT hg hm h.pa hs)) fun σ H Rr ⟨ρ, Z, B, r0, q⟩ => ?_⟩
  unfold fEnum at q
  by_cases ht : (match evA [f] ρ with | .ok r => (match r.1 with | [d] => d.isTup | _ => false) | _ => false) = true
  · refine .inr ⟨ρ, Z, B, r0, ?_⟩
    cases hf : evA [f] ρ with
    | ok a =>
      rw [hf] at q ht
      obtain ⟨ds0, ρ1⟩ := a
      intro v H1 r1 v1
      dsimp only [O.bind] at q ht
      split at q
      case h_2 => exact q.elim
      rename_i d
      cases hs : seqOf d with
      | none => rw [hs] at q; exact q.elim
      | some ds =>
        rw [hs] at q
        cases v1 with
        | cons v1 vn =>
          cases vn
          obtain ⟨a, xs, e1, e2, e3⟩ := rep_seqT v1 hs ht
          rw [← hK] at e3
          refine ⟨a, xs, by rw [e1], e3, q _ H1 r1 (iok_pair (f' := fun i => some (.int (i : Nat))) (g' := fun i => ds[i]?) walk_enumT (fun H2 s => hull_sqT r1 s e3) (fun i v e => ⟨_, rfl, ?_⟩) (fun i v e => e2.getV e) _ ?_ fun i x y hi h1 h2 => ?_)⟩
          · cases e; exact .int _
          · rw [enD_len, e2.len]
          · cases h1
            rw [enD_get ds 0 i y h2, Nat.zero_add]
    | ex k d ρ' => rw [hf] at q; exact q
    | bad => rw [hf] at q; exact q
  · refine .inl ⟨ρ, Z, B, r0, ?_⟩
    cases hf : evA [f] ρ with
    | ok a =>
      rw [hf] at q ht
      obtain ⟨ds0, ρ1⟩ := a
      intro v H1 r1 v1
      dsimp only [O.bind] at q ht
      split at q
      case h_2 => exact q.elim
      rename_i d
      cases hs : seqOf d with
      | none => rw [hs] at q; exact q.elim
      | some ds =>
        rw [hs] at q
        cases v1 with
        | cons v1 vn =>
          cases vn
          obtain ⟨a, xs, e1, e2, e3⟩ := rep_seqL v1 hs (by simpa using ht)
          rw [← hK] at e3
          refine ⟨a, xs, by rw [e1], sqL_of e3, q _ H1 r1 (iok_pair (f' := fun i => some (.int (i : Nat))) (g' := fun i => ds[i]?) walk_enum (fun H2 s => hull_sqL r1 s e3) (fun i v e => ⟨_, rfl, ?_⟩) (fun i v e => e2.getV e) _ ?_ fun i x y hi h1 h2 => ?_)⟩
          · cases e; exact .int _
          · rw [enD_len, e2.len]
          · cases h1
            rw [enD_get ds 0 i y h2, Nat.zero_add]
    | ex k d ρ' => rw [hf] at q; exact q
    | bad => rw [hf] at q; exact q
theorem di_zip (hK : X.K = c.K) (h : DA X c E [a, b] [f, g]) (hg : Gl X "zip" := by rfl) (hm : X.mg "zip" = none := by rfl) (hs : starEach [a, b] X.env = (false, eval a X.env) :: starEach [b] X.env := by rfl) (hpl : (backTo pos (starEach [b] X.env)).any (·.1) = false := by rfl) :
    DI X c E (.Tuple elts kk tpos) (.Call (.Name "zip" p) [a, b] [] pos) (fZip f g) := by
  refine ⟨pi_imp (RZ.pi_zipA hg hm h.pa hs hpl) fun σ H Rr ⟨ρ, Z, B, r0, q⟩ => ?_⟩
  unfold fZip at q
  refine ⟨ρ, Z, B, r0, O.sat_then (o := evA [f, g] ρ) q (fun a ha vs H1 r1 v1 => ?_) fun _ _ _ h => h⟩
  obtain ⟨dd, ρ1⟩ := a
  dsimp only at ha
  split at ha
  case h_2 => exact ha.elim
  rename_i d e
  split at ha
  case h_2 => exact ha.elim
  rename_i ds es hs1 hs2
  split at ha
  case isFalse => exact ha.elim
  rename_i heq
  have heq : d.isTup = e.isTup := by simpa using heq
  cases v1 with
  | cons v1 vn =>
    cases vn with
    | cons v2 vn =>
      cases vn
      by_cases ht : d.isTup = true
      · obtain ⟨a, xs, e1, e2, e3⟩ := rep_seqT v1 hs1 ht
        obtain ⟨b, ys, l1, l2, l3⟩ := rep_seqT v2 hs2 (heq ▸ ht)
        rw [← hK] at e3 l3
        refine ⟨a, b, xs, ys, by rw [e1, l1], .inr ⟨e3, l3, ha _ H1 r1 (iok_pair (f' := fun i => ds[i]?) (g' := fun i => es[i]?) (walk_zipT rfl) (fun H2 s => ⟨hull_sqT r1 s e3, hull_sqT r1 s l3⟩) (fun i v e => e2.getV e) (fun i v e => l2.getV e) _ ?_ fun i x y hi h1 h2 => zpD_get _ _ _ _ _ h1 h2)⟩⟩
        rw [zpD_len, e2.len, l2.len]
      · obtain ⟨a, xs, e1, e2, e3⟩ := rep_seqL v1 hs1 (by simpa using ht)
        obtain ⟨b, ys, l1, l2, l3⟩ := rep_seqL v2 hs2 (by rw [← heq]; simpa using ht)
        rw [← hK] at e3 l3
        refine ⟨a, b, xs, ys, by rw [e1, l1], .inl ⟨sqL_of e3, sqL_of l3, ha _ H1 r1 (iok_pair (f' := fun i => ds[i]?) (g' := fun i => es[i]?) (walk_zip rfl) (fun H2 s => ⟨hull_sqL r1 s e3, hull_sqL r1 s l3⟩) (fun i v e => e2.getV e) (fun i v e => l2.getV e) _ ?_ fun i x y hi h1 h2 => zpD_get _ _ _ _ _ h1 h2)⟩⟩
        rw [zpD_len, e2.len, l2.len]
end
end U
namespace U
set_option autoImplicit false
open PySem PySem.Spec PyProof.Rows L2
abbrev MG := List D → List D → Option (D × List D)
def GSM (c : Cc) (g : MG) (r : V → List V → Hp → VK → Prop) : Prop := ∀ (A : Addr → Prop) (H : Hp) (a : Addr) (xs : List V) (ds : List D) (vs : List V) (es : List D) (d : D) (ds' : List D) (Q : VK),
  H a = some (.lst xs) → RepL c A H xs ds → RepL c A H vs es → g ds es = some (d, ds') → (∀ v ys, Rep c A H v d → RepL c A H ys ds' → Q v (upd H a (.lst ys))) → r (.ref a) vs H Q
def fMut (g : MG) (i : Nat) (fs : List EF) : EF := fun ρ => match ρ[i]? with
  | some (some (true, .lst _)) => (evA fs ρ).bind fun a => match a.2[i]? with
    | some (some (true, .lst ds)) => match g ds a.1 with
      | some r => .ok (false, r.1, a.2.set i (some (true, .lst r.2)))
      | none => .bad
    | _ => .bad
  | _ => .bad
section
variable {c : Cc} {σ : St} {H H' : Hp} {ρ : En} {Z : Addr → Prop} {B : Hp} {a : Addr} {d : D} {i : Nat}
theorem but_upd {u u' : HO} (h : H a = some u) : But (· = a) H (upd H a u') := fun b o n e => by rw [upd_ne (fun z => n z)]; exact e
theorem av_set {d' : D} (h : ρ[i]? = some (some (true, d))) : ∀ b, Av σ (ρ.set i (some (true, d'))) Z b → Av σ ρ Z b := fun b z => z.imp id (own_same h).mp
theorem R.rewriteC (r : R c σ H ρ Z B) (h : ρ[i]? = some (some (true, d))) (hs : σ[i]? = some (some (.ref a))) {u' : HO} {d' : D} {ys : List V} {ds' : List D} (hc : Cell c (upd H a u') a d' ys ds') (hr : RepL c (Av σ ρ Z) H ys ds') :
    R c σ (upd H a u') (ρ.set i (some (true, d'))) Z B ∧ ∀ v x, Rep c (Av σ ρ Z) H v x → Rep c (Av σ (ρ.set i (some (true, d'))) Z) (upd H a u') v x := by
  have oi : Own σ ρ a := ⟨i, d, h, hs⟩
  obtain ⟨u, hH, cl⟩ := r.ownL oi
  have kw : ∀ b, b = a → ∃ u, H b = some u ∧ Cl u := fun b z => ⟨u, by rw [z]; exact hH, cl⟩
  have ka : ∀ b, b = a → Av σ ρ Z b := fun b z => .inr (by rw [z]; exact oi)
  have kb := but_upd (u' := u') hH
  refine ⟨r.change h hs kb hc (RepL.but kb kw ka hr), fun v x e => (Rep.but kb kw ka e).avoid fun b z => .inl (av_set h b z)⟩
theorem R.rewrite (r : R c σ H ρ Z B) (h : ρ[i]? = some (some (true, d))) (hs : σ[i]? = some (some (.ref a))) {ys : List V} {ds' : List D} (hr : RepL c (Av σ ρ Z) H ys ds') :
    R c σ (upd H a (.lst ys)) (ρ.set i (some (true, .lst ds'))) Z B ∧ ∀ v x, Rep c (Av σ ρ Z) H v x → Rep c (Av σ (ρ.set i (some (true, .lst ds'))) Z) (upd H a (.lst ys)) v x := r.rewriteC h hs (.lst upd_same) hr
end
section
variable {X : Cx} {c : Cc} {E : XK} {e o : Expr} {es : List Expr} {fs : List EF} {g : MG} {r : V → List V → Hp → VK → Prop} {name : Str} {apos cpos : Pos} {id : String} {i : Nat}
theorem lift_mut (hr : GSM c g r) {K : PySem.W.Frag} {σ : St} {H : Hp} {Q : VK} (h : liftE c E (fMut g i fs) σ H Q) : tBM K "list" r (tVar i) (liftA c E fs) σ H Q := by
  obtain ⟨ρ, Z, B, r0, h⟩ := h
  unfold fMut at h
  split at h
  case h_2 => exact h.elim
  rename_i d0 hi
  obtain ⟨a, ds, xs, h2, hC, h4, h5, h6⟩ := r0.own i _ hi
  obtain ⟨_, h3⟩ := hC.toL
  refine ⟨.ref a, h2, .inl ⟨rfl, xs, .inl (.inl h3)⟩, ρ, Z, B, r0, O.sat_then (o := evA fs ρ) h (fun a1 ha vs H1 r1 pv1 => ?_) fun _ _ _ h => h⟩
  split at ha
  case h_2 => exact ha.elim
  rename_i ds1 hi1
  split at ha
  case h_2 => exact ha.elim
  rename_i w hg
  obtain ⟨d', ds'⟩ := w
  obtain ⟨a', _, xs', k2, kC, k4, k5, k6⟩ := r1.own i _ hi1
  obtain ⟨e1, k3⟩ := kC.toL
  rw [h2] at k2
  cases k2
  cases e1
  refine hr (Av σ a1.2 Z) H1 a xs' ds1 vs a1.1 d' ds' Q k3 k4 pv1 hg fun v ys hv hys => ?_
  obtain ⟨l1, l2⟩ := r1.rewrite hi1 h2 hys
  exact ha v _ l1 (l2 v d' hv)
theorem de_mut (hr : GSM c g r) (hm : MtR X id r) (slot : Slot "list" name id) (hty : typeOf (.builtin id) = pure (.type "method_descriptor")) (hv : PE X o (tVar i)) (ha : DA X c E (e :: es) fs)
    (hbase : attributeBase o name X.env (eval o X.env) = eval o X.env := by rfl)
    (hfew : ((backTo cpos (starEach (e :: es) X.env)).all (fun x => !x.1) && (backToKw cpos (keywordEach [] X.env)).all (fun x => x.1.isSome)
      && decide ((e :: es).length + ([] : List Keyword).length + (if ([] : List Keyword).isEmpty then 0 else 1) < 30)) = true := by rfl)
    (hline : (apos.endLine == cpos.line) = true := by rfl) (hs : starEach (e :: es) X.env = (false, eval e X.env) :: starEach es X.env := by rfl) (hplain : (backTo cpos (starEach es X.env)).any (·.1) = false := by rfl) :
    DE X c E (.Call (.Attribute o name apos) (e :: es) [] cpos) (fMut g i fs) :=
  ⟨pe_imp (pe_bm PySem.F.plainAttrs_list slot hty hm hv ha.pa hbase hfew hline hs hplain) fun _ _ _ h => lift_mut hr h⟩
end
def mApp : MG := fun ds es => match es with
  | [y] => if ds.length < 16777216 then some (.non, ds ++ [y]) else none
  | _ => none
section
variable {c : Cc}
theorem gs_app : GSM c mApp rAppend := by
  intro A H a xs ds vs es d ds' Q h1 h2 h3 e k
  unfold mApp at e
  split at e
  case h_2 => cases e
  rename_i y
  split at e
  case isFalse => cases e
  rename_i hl
  cases e
  cases h3 with
  | cons r rn =>
    cases rn
    exact ⟨a, xs, _, rfl, rfl, h1, by rw [h2.len, sizeLine_eq]; exact hl, k .non _ .non (h2.app (.cons r .nil))⟩
end
def sIx (i : Nat) (fi f : EF) : SF := fun ρ => (f ρ).bind fun r => match r.2.2[i]? with
  | some (some (true, .lst _)) => (fi r.2.2).bind fun s => match s.2.1, s.2.2[i]? with
    | .int k, some (some (true, .lst ds)) => match ixN ds.length k with
      | some j => .ok (.nx, s.2.2.set i (some (true, .lst (ds.set j r.2.1))))
      | none => .bad
    | _, _ => .bad
  | _ => .bad
section
variable {X : Cx} {c : Cc} {pr : Bool} {E : XK} {o e ei : Expr} {f fi : EF} {pos pos' : Pos} {i : Nat}
theorem ds_ix (he : DE X c E e f) (hv : PE X o (tVar i)) (hi : DE X c E ei fi) (hs : swapsWithSole [.Subscript o ei pos'] e pos.line X.env = pure false := by rfl) (hw : swappedStores [.Subscript o ei pos'] e X.env = pure none := by rfl)
    (h1 : (assignEach [.Subscript o ei pos'] X.env).map (·.2) = [assign (.Subscript o ei pos') X.env] := by rfl)
    (ha : ∀ v, assign (.Subscript o ei pos') X.env v = (do
      let ov ← holding [v] (eval o X.env)
      let iv ← holding [v, ov] (eval ei X.env)
      standAt pos'
      holding [v, ov, iv] (setItem ov iv v)
      release [v, ov, iv] []) := by intro _; rfl) : DS X c pr E (.Assign [.Subscript o ei pos'] e pos) (sIx i fi f) := by
  refine ⟨ps_imp (ps_asg he.pe (pg_sub hv hi.pe set_list ha) hs hw h1) fun T σ H ⟨ρ, Z, B, r0, q⟩ => ⟨ρ, Z, B, r0, O.sat_then (o := f ρ) q (fun r hr v H1 r1 v1 => ?_) fun _ _ _ h => h.xw⟩⟩
  split at hr
  case h_2 => exact hr.elim
  rename_i d0 hi0
  obtain ⟨a, ds, xs, h2, hC, h4, h5, h6⟩ := r1.own i _ hi0
  obtain ⟨_, h3⟩ := hC.toL
  refine ⟨.ref a, h2, r.2.2, Z, hull σ r.2.2 H1, r1.strong, O.sat_then (o := fi r.2.2) hr (fun s hs w H2 r2 v2 => ?_) fun _ _ _ h => (h.weak r1.hull_le).xw⟩
  have rv := r1.keepV r2 v1.rep
  split at hs
  case h_2 => exact hs.elim
  rename_i k ds1 ek hi1
  split at hs
  case h_2 => exact hs.elim
  rename_i j hj
  obtain ⟨a', _, xs', k2, kC, k4, k5, k6⟩ := r2.own i _ hi1
  obtain ⟨e1, k3⟩ := kC.toL
  rw [h2] at k2
  cases k2
  cases e1
  have v2r := v2.rep
  rw [ek] at v2r
  cases v2r
  refine ⟨a, xs', k, j, rfl, rfl, k3, by rw [k4.len]; exact hj, ?_⟩
  exact hs _ _ (fun _ => rfl) ((r2.weak r1.hull_le).rewrite hi1 h2 (k4.set rv j)).1
end
end U
namespace U
set_option autoImplicit false
open PySem PySem.Spec PyProof.Rows L2
theorem uPass {X : Cx} {E : XK} : Passes CX0 X E := fun _ _ _ _ _ _ _ h => h.elim
def dLt : D → D → Option Bool := dB2 fun i j => decide (i < j)
def dLe : D → D → Option Bool := dB2 fun i j => decide (i ≤ j)
def dGt : D → D → Option Bool := dB2 fun i j => decide (j < i)
def dGe : D → D → Option Bool := dB2 fun i j => decide (j ≤ i)
section
variable {X : Cx} {c : Cc} {E : XK} {a b : Expr} {p q : Pk} {pos : Pos} {k : Nat}
theorem hu64 (hr : Room k X.A) : X.A.units + 64 < cLine := by have := hr.un; omega
theorem e_add (hK : X.K = c.K) (ha : DP X c E a p) (hb : DP X c E b q) : DE X c E (.BinOp a .Add b pos) (op2 dAdd p q) := de_op2 (gs_add hK) ha hb fun h h' => pe_op or_add h h'
theorem e_mul (hK : X.K = c.K) (ha : DP X c E a p) (hb : DP X c E b q) : DE X c E (.BinOp a .Mult b pos) (op2 dMul p q) := de_op2 (gs_mul hK) ha hb fun h h' => pe_op or_mul h h'
theorem e_sub (ha : DP X c E a p) (hb : DP X c E b q) : DE X c E (.BinOp a .Sub b pos) (op2 dSub p q) := de_op2 gs_sub ha hb fun h h' => pe_op op_sub h h'
theorem e_fdiv (ha : DP X c E a p) (hb : DP X c E b q) : DE X c E (.BinOp a .FloorDiv b pos) (op2 dFdiv p q) := de_op2 gs_fdiv ha hb fun h h' => pe_op op_fdivX h h'
theorem e_mod (ha : DP X c E a p) (hb : DP X c E b q) : DE X c E (.BinOp a .Mod b pos) (op2 dMod p q) := de_op2 gs_mod ha hb fun h h' => pe_op op_modN h h'
theorem e_pow (ha : DP X c E a p) (hb : DP X c E b q) : DE X c E (.BinOp a .Pow b pos) (op2 dPow p q) := de_op2 gs_pow ha hb fun h h' => pe_op op_pow h h'
theorem t_lt (ha : DP X c E a p) (hb : DP X c E b q) : DT X c E (.Compare a [.Lt] [b] pos) (tOp2 dLt p q) := dt_op2 op_lt gs_rB0 ha hb (nomark _)
theorem t_le (ha : DP X c E a p) (hb : DP X c E b q) : DT X c E (.Compare a [.LtE] [b] pos) (tOp2 dLe p q) := dt_op2 op_le gs_rB0 ha hb (nomark _)
theorem t_gt (ha : DP X c E a p) (hb : DP X c E b q) : DT X c E (.Compare a [.Gt] [b] pos) (tOp2 dGt p q) := dt_op2 op_gt gs_rB0 ha hb (nomark _)
theorem t_ge (ha : DP X c E a p) (hb : DP X c E b q) : DT X c E (.Compare a [.GtE] [b] pos) (tOp2 dGe p q) := dt_op2 op_ge gs_rB0 ha hb (nomark _)
theorem t_eq (hr : Room k X.A) (hK : X.K = c.K) (ha : DP X c E a p) (hb : DP X c E b q) : DT X c E (.Compare a [.Eq] [b] pos) (tOp2 dEq p q) := dt_op2 (op_eqD (hu64 hr)) (gs_eq hK) ha hb (nomark _)
theorem t_ne (hr : Room k X.A) (hK : X.K = c.K) (ha : DP X c E a p) (hb : DP X c E b q) : DT X c E (.Compare a [.NotEq] [b] pos) (tOp2 dNe p q) := dt_op2 (op_neD (hu64 hr)) (gs_ne hK) ha hb (nomark _)
theorem t_isN (ha : DP X c E a p) (hb : DP X c E b q) : DT X c E (.Compare a [.Is] [b] pos) (tOp2 dIsN p q) := dt_op2 op_isN gs_isN ha hb (nomark _)
theorem t_isB (ha : DP X c E a p) (hb : DP X c E b q) : DT X c E (.Compare a [.Is] [b] pos) (tOp2 dIsB p q) := dt_op2 op_isV gs_isB ha hb (nomark _)
theorem c_eq (hr : Room k X.A) (hK : X.K = c.K) (ha : DP X c E a p) (hb : DP X c E b q) : DE X c E (.Compare a [.Eq] [b] pos) (op2 (blO dEq) p q) := de_cmp (op_eqD (hu64 hr)) (gs_eq hK) ha hb (nomark _)
theorem c_isN (ha : DP X c E a p) (hb : DP X c E b q) : DE X c E (.Compare a [.Is] [b] pos) (op2 (blO dIsN) p q) := de_cmp op_isN gs_isN ha hb (nomark _)
end
section
variable {X : Cx} {c : Cc} {E : XK} {e : Expr} {es : List Expr} {ps : List Pk} {p pos : Pos}
theorem b_abs (hm : X.mg "abs" = none) (ha : DPs X c E [e] ps) (hg : Gl X "abs" := by rfl) (hs : starEach [e] X.env = (false, eval e X.env) :: starEach [] X.env := by rfl) (hpl : (backTo pos (starEach [] X.env)).any (·.1) = false := by rfl) : DE X c E (.Call (.Name "abs" p) [e] [] pos) (opN dAbs ps) :=
  de_opN gs_abs ha fun h => pe_callB call_abs hg hm (by rfl) h (by decide) (by decide) hs hpl
theorem b_int (hm : X.mg "int" = none) (ha : DPs X c E [e] ps) (hg : Gl X "int" := by rfl) (hs : starEach [e] X.env = (false, eval e X.env) :: starEach [] X.env := by rfl) (hpl : (backTo pos (starEach [] X.env)).any (·.1) = false := by rfl) : DE X c E (.Call (.Name "int" p) [e] [] pos) (opN dInt ps) :=
  de_opN gs_int ha fun h => pe_callTy call_int1 hg hm (by rfl) h (by decide) (by decide) hs hpl
theorem b_tuple (hK : X.K = c.K) (hm : X.mg "tuple" = none) (ha : DPs X c E [e] ps) (hg : Gl X "tuple" := by rfl) (hs : starEach [e] X.env = (false, eval e X.env) :: starEach [] X.env := by rfl) (hpl : (backTo pos (starEach [] X.env)).any (·.1) = false := by rfl) : DE X c E (.Call (.Name "tuple" p) [e] [] pos) (opN dTuple ps) :=
  de_opN (gs_tuple hK) ha fun h => pe_callTy call_tuple_of hg hm (by rfl) h (by decide) (by decide) hs hpl
theorem b_max2 {e2 : Expr} (hc : X.calm = true) (hm : X.mg "max" = none) (ha : DPs X c E [e, e2] ps) (hg : Gl X "max" := by rfl) (hs : starEach [e, e2] X.env = (false, eval e X.env) :: starEach [e2] X.env := by rfl) (hpl : (backTo pos (starEach [e2] X.env)).any (·.1) = false := by rfl) : DE X c E (.Call (.Name "max" p) [e, e2] [] pos) (opN dMax2 ps) :=
  de_opN gs_max2 ha fun h => pe_callB (call_max2 hc) hg hm (by rfl) h (by decide) (by decide) hs hpl
theorem b_min2 {e2 : Expr} (hc : X.calm = true) (hm : X.mg "min" = none) (ha : DPs X c E [e, e2] ps) (hg : Gl X "min" := by rfl) (hs : starEach [e, e2] X.env = (false, eval e X.env) :: starEach [e2] X.env := by rfl) (hpl : (backTo pos (starEach [e2] X.env)).any (·.1) = false := by rfl) : DE X c E (.Call (.Name "min" p) [e, e2] [] pos) (opN dMin2 ps) :=
  de_opN gs_min2 ha fun h => pe_callB (call_min2 hc) hg hm (by rfl) h (by decide) (by decide) hs hpl
end
section
variable {K : PySem.W.Frag}
end
theorem fn_bad {P : Program} {w : World} {K : PySem.W.Frag} {mg : Str → Option Value} {base : Heap} {CX : CXT} {c : Cc} {x qual : Str} {st : Stmt} {f : Addr} {fd : FuncData} {N ps : List Str} {k : Nat} {io : Bool} (F : Fun K x qual st f fd) (S : FnScope N ps (defScope st)) :
    FnOk P w K mg base CX (k + 1) f fd ps (spOf c io fun _ => .bad) := by
  have no : ∀ vs H Q E, ¬ spOf c io (fun _ => .bad) vs H Q E := fun vs H Q E h => by
    cases io with
    | false => obtain ⟨ds, Z, _, _, h⟩ := h; exact h.elim
    | true => obtain ⟨a, ws, vs', es, ds', Z, _, _, _, _, _, _, h⟩ := h; exact h.elim
  obtain ⟨oc, od, kV, doc, pm, an, cdv, ct, osl, rfl, lk, hcd⟩ := F.ex
  exact fn_of lk hcd S (fun vs H Q E h => absurd h (no vs H Q E)) fun A outer s H vs Q E hr h => absurd h (no vs H Q E)
end U
namespace U
set_option autoImplicit false
open PySem PySem.Spec PyProof.Rows L2
section
variable {X : Cx} {c : Cc} {E : XK} {e a b : Expr} {p q : Pk} {p0 pos p1 pos1 : Pos}
end
end U
namespace U
set_option autoImplicit false
open PySem PySem.Spec PyProof.Rows L2
def Nm (K : PySem.W.Frag) (mg : Str → Option Value) (x : Str) (st : Stmt) : Prop := ∃ f fd, Fun K x x st f fd ∧ mg x = some (.ref f)
def Okd (P : Program) (w : World) (K : PySem.W.Frag) (mg : Str → Option Value) (base : Heap) (CX : CXT) (c : Cc) (x : Str) (st : Stmt) (ps : List Str) (k : Nat) (io : Bool) (g : FD) : Prop :=
  ∃ f fd, Fun K x x st f fd ∧ mg x = some (.ref f) ∧ Binds K fd ps [] ∧ FnOk P w K mg base CX k f fd ps (spOf c io g)
def BindsP (x : Str) (st : Stmt) (ps : List Str) : Prop := ∀ (kV doc pm : Value) (an : Option Addr) (cdv ct : Value) (us : List Value), us.length = ps.length → bindArgs (PySem.W.fnOf x x (defArgs st) (defBody st) (defScope st) .none kV doc pm an cdv ct) ⟨us, []⟩ = pure (ps.zip us)
section
variable {P : Program} {w : World} {K : PySem.W.Frag} {mg : Str → Option Value} {base : Heap} {CX : CXT} {c : Cc} {x : Str} {st : Stmt} {N ps : List Str} {k : Nat} {b : SF} {io : Bool}
theorem okd_of (n : Nm K mg x st) (S : FnScope N ps (defScope st)) (hio : io = true → ps ≠ []) (hb : BindsP x st ps)
    (hbody : ∀ (f : Addr) (cdv : Value) (A : Around) (outer : List Env) (s : Shared) (H : Hp) (E : XK), Room k (A.deeper (envOfC x (defScope st) s.heap.objs.size f cdv)) →
      DSs (cxOf CX P w K mg base N x (defScope st) f cdv A outer s H E) c io E (defBody st) b) : Okd P w K mg base CX c x st ps (k + 1) io (runF ps.length N.length io b) := by
  obtain ⟨f, fd, F, hm⟩ := n
  exact ⟨f, fd, F, hm, F.binds hb, fn_den F S hio fun cdv A outer s H E hr => hbody f cdv A outer s H E hr⟩
theorem okd_bad (n : Nm K mg x st) (S : FnScope N ps (defScope st)) (hb : BindsP x st ps) : Okd P w K mg base CX c x st ps (k + 1) io fun _ => .bad := by
  obtain ⟨f, fd, F, hm⟩ := n
  exact ⟨f, fd, F, hm, F.binds hb, fn_bad F S⟩
end
section
variable {X : Cx} {CX : CXT} {c : Cc} {E : XK} {x : Str} {st : Stmt} {qs ks : List Str} {k j : Nat} {g : FD} {p pos : Pos} {e : Expr} {es : List Expr} {kws : List Keyword} {ps ps2 : List Pk}
theorem e_call (o : Okd X.prog X.w X.K X.mg X.base CX c x st qs k false g) (hr : Room j X.A) (hk : k ≤ j) (hx : Passes CX X E) (ha : DPs X c E (e :: es) ps) (hg : Gl X x := by rfl)
    (hdb : (x == ("__debug__" : Str)) = false := by decide) (he : starEach (e :: es) X.env = (false, eval e X.env) :: starEach es X.env := by rfl) (hpl : (backTo pos (starEach es X.env)).any (·.1) = false := by rfl) :
    DE X c E (.Call (.Name x p) (e :: es) [] pos) (fCall g ps) := by
  obtain ⟨f, fd, F, hm, hb, ok⟩ := o
  have := de_call dv_nil ok (hr.mono hk) hg hm F.kp hb .nil hx ha hdb he hpl (p := p)
  have e1 : (fun ds => g (ds ++ [])) = g := by funext ds; rw [List.append_nil]
  rw [e1] at this
  exact this
theorem e_callIO {i : Nat} {o : Expr} (ok : Okd X.prog X.w X.K X.mg X.base CX c x st qs k true g) (hr : Room j X.A) (hk : k ≤ j) (hx : Passes CX X E) (hv : PE X o (tVar i)) (ha : DPs X c E es ps) (hg : Gl X x := by rfl)
    (hs : starEach (o :: es) X.env = (false, eval o X.env) :: starEach es X.env := by rfl) (hdb : (x == ("__debug__" : Str)) = false := by decide) (hpl : (backTo pos (starEach es X.env)).any (·.1) = false := by rfl) :
    DE X c E (.Call (.Name x p) (o :: es) [] pos) (fCallIO g i ps) := by
  obtain ⟨f, fd, F, hm, hb, ok⟩ := ok
  exact de_callIO ok (hr.mono hk) hg hm F.kp hb hx hv ha hs hdb hpl
end
theorem nm_mk {K : PySem.W.Frag} {h : Heap} {mg : Str → Option Value} {x : Str} {st : Stmt} {f : Addr} {oc : Value} {od an : Option Addr} {osl : Array (Option Value)} {kV doc pm cdv ct : Value} (X : K.In h) (G : h.Ns mainGlobals mg)
    (a : PySem.W.nsIn K mainGlobals x = some (some (.ref f))) (l : K.lookup f = some ⟨oc, od, .func (PySem.W.fnOf x x (defArgs st) (defBody st) (defScope st) .none kV doc pm an cdv ct), osl⟩)
    (c : PySem.W.codeIn K cdv x = true) (k : PySem.W.keepIn K (.ref f) = true) : Nm K mg x st := ⟨f, _, fun_mk l c k, PySem.W.mg_of X G a⟩
end U
namespace U
set_option autoImplicit false
open PySem PySem.Spec PyProof.Rows L2
theorem law_mk {P : Program} {w : World} {K : PySem.W.Frag} {mg : Str → Option Value} {CX : CXT} {c : Cc} {st : Stmt} {x nm : Str} {k : Nat} {g : FD} {fa : Addr} (n : Nm K mg nm st) (hb : BindsP nm st [x]) (hmg : mg nm = some (.ref fa))
    (ok : ∀ base : Heap, K.In base → base.Ns mainGlobals mg → Okd P w K mg base CX c nm st [x] k false g) :
    ∃ fd : FuncData, (∀ (s : Shared) (u : Value), BindsTo s fd ⟨[u], []⟩ [(x, u)]) ∧ ∀ base : Heap, K.In base → base.Ns mainGlobals mg → FnOk P w K mg base CX k fa fd [x] (spOf c false g) := by
  obtain ⟨f, fd, F, hm⟩ := n
  have e : f = fa := by
    rw [hm] at hmg
    cases hmg
    rfl
  subst e
  refine ⟨fd, fun s u => ?_, fun base h1 h2 => ?_⟩
  · obtain ⟨oc, od, kV, doc, pm, an, cdv, ct, osl, rfl, lk, hcd⟩ := F.ex
    exact .of_eq (hb kV doc pm an cdv ct [u] rfl)
  · obtain ⟨f', fd', F', hm', _, ok'⟩ := ok base h1 h2
    have e : f' = f := by
      rw [hm'] at hm
      cases hm
      rfl
    subst e
    obtain ⟨oc, od, kV, doc, pm, an, cdv, ct, osl, rfl, lk, hcd⟩ := F.ex
    obtain ⟨oc', od', kV', doc', pm', an', cdv', ct', osl', rfl, lk', hcd'⟩ := F'.ex
    rw [lk] at lk'
    cases lk'
    exact ok'
def Yes (g : FD) (ns : List Int) : Prop := ∃ fr out, g [.scr ns] = .ok (fr, .bl true, out)
theorem law_sp {K : PySem.W.Frag} {c : Cc} {g : FD} {H : Hp} {a : Addr} {ns : List Int} (hK : K = c.K) (hO : L2.Only H) (hS : SqL K H a (ns.map V.int)) (y : Yes g ns) : spOf c false g [.ref a] H (fun v _ => v = .bl true) fun _ _ _ => False := by
  obtain ⟨fr, out, e⟩ := y
  have hF : SqF c.K H a (ns.map V.int) := by
    rw [hK] at hS
    rcases hS with (h | h) | h
    · rcases hO a with q | ⟨o, xs, q⟩
      · rw [q] at h; cases h
      · rw [q] at h; cases h
    · exact .inl h
    · exact .inr h
  refine ⟨[.scr ns], fun _ => False, fun _ h => h.elim, .cons (.scr hF) .nil, ?_⟩
  rw [e]
  intro v H' _ n
  cases fr with
  | true =>
    obtain ⟨a, ds, xs, _, _, h, _⟩ := n
    cases h
  | false =>
    have n : Rep c _ H' v (.bl true) := n
    cases n
    rfl
def cc0 (P : Program) (w : World) (K : PySem.W.Frag) : Cc := ⟨K, fun _ _ => False, fun _ => none, fun x => x, P, w⟩
end U
namespace U
set_option autoImplicit false
open PySem L2
def O.wp {α : Type} (o : O α) (Q : α → Prop) : Prop := match o with
  | .ok a => Q a
  | _ => False
section
variable {α β : Type}
@[simp] theorem O.bind_ok (a : α) (f : α → O β) : (O.ok a).bind f = f a := rfl
@[simp] theorem O.bind_ex (k : Str) (d : D) (ρ : En) (f : α → O β) : (O.ex k d ρ : O α).bind f = .ex k d ρ := rfl
@[simp] theorem O.bind_bad (f : α → O β) : (O.bad : O α).bind f = .bad := rfl
@[simp] theorem O.wp_ok (a : α) (Q : α → Prop) : (O.ok a).wp Q = Q a := rfl
theorem O.wp_bind {o : O α} {f : α → O β} {Q : β → Prop} (h : o.wp fun a => (f a).wp Q) : (o.bind f).wp Q := by
  cases o with
  | ok a => exact h
  | ex k d ρ => exact h
  | bad => exact h
theorem O.wp_ex {o : O α} {Q : α → Prop} (h : o.wp Q) : ∃ a, o = .ok a ∧ Q a := by
  cases o with
  | ok a => exact ⟨a, rfl, h⟩
  | ex k d ρ => exact h.elim
  | bad => exact h.elim
theorem O.wp_mono {o : O α} {Q Q' : α → Prop} (h : o.wp Q) (k : ∀ a, Q a → Q' a) : o.wp Q' := by
  cases o with
  | ok a => exact k a h
  | ex k d ρ => exact h
  | bad => exact h
theorem O.wp_of {o : O α} {Q : α → Prop} {a : α} (h : o = .ok a) (q : Q a) : o.wp Q := by rw [h]; exact q
end
section
variable (ρ : En) (d : D) (i j : Nat) (f g h : EF) (p q : Pk) (ps : List Pk) (fs : List EF) (s t : SF) (ta tb : TF)
@[simp] theorem r_fC : fC d ρ = .ok (false, d, ρ) := rfl
@[simp] theorem r_var : fVar i ρ = match ρ[i]? with
  | some (some (_, d)) => .ok (false, d, ρ.set i (some (false, d)))
  | _ => .bad := by unfold fVar; rfl
@[simp] theorem r_mv : fMv i ρ = match ρ[i]? with
  | some (some (true, d)) => .ok (true, d, ρ.set i none)
  | some (some (false, d)) => .ok (false, d, ρ)
  | _ => .bad := by unfold fMv; rfl
@[simp] theorem r_pv : Pk.ev (.val f) ρ = (f ρ).bind fun r => .ok (some r.2.1, r.2.2) := rfl
@[simp] theorem r_pr : Pk.ev (.var i) ρ = match ρ[i]? with
  | some (some _) => .ok (none, ρ)
  | _ => .bad := rfl
@[simp] theorem r_get1 : Pk.get p (some d) ρ = some d := rfl
@[simp] theorem r_get0 : Pk.get (.var i) none ρ = slotD ρ i := rfl
@[simp] theorem r_slot : slotD ρ i = match ρ[i]? with
  | some (some (_, d)) => some d
  | _ => none := rfl
@[simp] theorem r_op2 (k : D → D → Option (Bool × D)) : op2 k p q ρ = (p.ev ρ).bind fun a => (q.ev a.2).bind fun b => get2 k (p.get a.1 b.2) (q.get b.1 b.2) b.2 := rfl
@[simp] theorem r_get2 (k : D → D → Option (Bool × D)) (x y : D) : get2 k (some x) (some y) ρ = match k x y with
  | some r => .ok (r.1, r.2, ρ)
  | none => .bad := rfl
@[simp] theorem r_op1 (k : D → Option (Bool × D)) : op1 k p ρ = (p.ev ρ).bind fun a => match p.get a.1 a.2 with
  | some x => match k x with
    | some r => .ok (r.1, r.2, a.2)
    | none => .bad
  | none => .bad := rfl
@[simp] theorem r_opN (k : List D → Option (Bool × D)) : opN k ps ρ = (Pk.evs ps ρ).bind fun a => match Pk.gets ps a.1 a.2 with
  | some x => match k x with
    | some r => .ok (r.1, r.2, a.2)
    | none => .bad
  | none => .bad := rfl
@[simp] theorem r_evs0 : Pk.evs [] ρ = .ok ([], ρ) := rfl
@[simp] theorem r_evs1 : Pk.evs (p :: ps) ρ = (p.ev ρ).bind fun a => (Pk.evs ps a.2).bind fun b => .ok (a.1 :: b.1, b.2) := rfl
@[simp] theorem r_gets0 : Pk.gets [] [] ρ = some [] := rfl
@[simp] theorem r_gets1 (o : Option D) (os : List (Option D)) : Pk.gets (p :: ps) (o :: os) ρ = match p.get o ρ, Pk.gets ps os ρ with
  | some d, some ds => some (d :: ds)
  | _, _ => none := rfl
@[simp] theorem r_evA0 : evA [] ρ = .ok ([], ρ) := rfl
@[simp] theorem r_evA1 : evA (f :: fs) ρ = (f ρ).bind fun a => (evA fs a.2.2).bind fun b => .ok (a.2.1 :: b.1, b.2) := rfl
@[simp] theorem r_tup : fTup fs ρ = (evA fs ρ).bind fun a => if a.1.length ≤ 16777216 then .ok (false, .tup a.1, a.2) else .bad := rfl
@[simp] theorem r_lst : fLst fs ρ = (evA fs ρ).bind fun a => if a.1.length ≤ 16777216 then .ok (true, .lst a.1, a.2) else .bad := rfl
@[simp] theorem r_if : fIf ta f g ρ = (ta ρ).bind fun r => if r.1 = true then f r.2 else g r.2 := rfl
@[simp] theorem r_and : fAnd p g ρ = (tOf p ρ).bind fun r => if r.1 = true then g r.2 else .ok (false, .bl false, r.2) := rfl
@[simp] theorem r_not : fNot p ρ = (tOf p ρ).bind fun r => .ok (false, .bl (!r.1), r.2) := rfl
@[simp] theorem r_tOf : tOf p ρ = (p.ev ρ).bind fun a => match p.get a.1 a.2 with
  | some (.bl b) => .ok (b, a.2)
  | _ => .bad := rfl
@[simp] theorem r_tOp2 (k : D → D → Option Bool) : tOp2 k p q ρ = (p.ev ρ).bind fun a => (q.ev a.2).bind fun b => match p.get a.1 b.2, q.get b.1 b.2 with
  | some x, some y => match k x y with
    | some k => .ok (k, b.2)
    | none => .bad
  | _, _ => .bad := rfl
@[simp] theorem r_tNo : tNo ta ρ = (ta ρ).bind fun r => .ok (!r.1, r.2) := rfl
@[simp] theorem r_tOr : tOr' ta tb ρ = (ta ρ).bind fun r => if r.1 = true then .ok (true, r.2) else tb r.2 := rfl
@[simp] theorem r_tAll0 : tAll [] ρ = .ok (true, ρ) := rfl
@[simp] theorem r_blO (k : D → D → Option Bool) (x y : D) : blO k x y = (k x y).map fun b => (false, .bl b) := rfl
@[simp] theorem r_nil : sNil ρ = .ok (.nx, ρ) := rfl
@[simp] theorem r_seq : sSeq s t ρ = (s ρ).bind fun r => match r.1 with
  | .nx => t r.2
  | _ => .ok r := rfl
@[simp] theorem r_set : sSet i f ρ = (f ρ).bind fun r => .ok (.nx, r.2.2.set i (some (r.1, r.2.1))) := rfl
@[simp] theorem r_exp : sExp f ρ = (f ρ).bind fun r => .ok (.nx, r.2.2) := rfl
@[simp] theorem r_ret : sRet f ρ = (f ρ).bind fun r => .ok (.rt r.1 r.2.1, r.2.2) := rfl
@[simp] theorem r_sIf : sIf ta s t ρ = (ta ρ).bind fun r => if r.1 = true then s r.2 else t r.2 := rfl
@[simp] theorem r_gN : gN i d ρ = some (ρ.set i (some (false, d))) := rfl
@[simp] theorem r_gT (ts : List Tg) (ds : List D) : gT ts (.tup ds) ρ = gTs ts ds ρ := rfl
@[simp] theorem r_gTs0 : gTs [] [] ρ = some ρ := rfl
@[simp] theorem r_gTs1 (tg : Tg) (ts : List Tg) (ds : List D) : gTs (tg :: ts) (d :: ds) ρ = match tg d ρ with
  | some ρ' => gTs ts ds ρ'
  | none => none := rfl
@[simp] theorem r_par (r : List (Nat × EF)) : sPar r ρ = (parF r ρ).bind fun ρ' => .ok (.nx, ρ') := rfl
@[simp] theorem r_par0 : parF [] ρ = .ok ρ := rfl
@[simp] theorem r_par1 (r : List (Nat × EF)) : parF ((i, f) :: r) ρ = (f ρ).bind fun a => (parF r a.2.2).bind fun ρ2 => .ok (ρ2.set i (some (a.1, a.2.1))) := rfl
@[simp] theorem r_for (fi : IF) (tg : Tg) : sFor fi tg s ρ = (fi ρ).bind fun r => forL tg s r.1 r.2 := rfl
@[simp] theorem r_itS : fItS f ρ = (f ρ).bind fun r => match seqOf r.2.1 with
  | some ds => .ok (ds, r.2.2)
  | none => .bad := rfl
@[simp] theorem r_rg (k : List D → Option (List D)) : fRg k ps ρ = (Pk.evs ps ρ).bind fun a => match Pk.gets ps a.1 a.2 with
  | some ds => match k ds with
    | some r => .ok (r, a.2)
    | none => .bad
  | none => .bad := rfl
@[simp] theorem r_seqT (ds : List D) : seqOf (.tup ds) = some ds := rfl
@[simp] theorem r_seqL (ds : List D) : seqOf (.lst ds) = some ds := rfl
@[simp] theorem r_seqS (ns : List Int) : seqOf (.scr ns) = some (ns.map .int) := rfl
@[simp] theorem r_enum : fEnum f ρ = (evA [f] ρ).bind fun r => match r.1 with
  | [d] => match seqOf d with
    | some ds => .ok (enD 0 ds, r.2)
    | none => .bad
  | _ => .bad := rfl
@[simp] theorem r_zip : fZip f g ρ = (evA [f, g] ρ).bind fun r => match r.1 with
  | [d, e] => match seqOf d, seqOf e with
    | some ds, some es => if d.isTup == e.isTup then .ok (zpD ds es, r.2) else .bad
    | _, _ => .bad
  | _ => .bad := rfl
@[simp] theorem r_call (k : FD) : fCall k ps ρ = (Pk.evs ps ρ).bind fun a => match Pk.gets ps a.1 a.2 with
  | some ds => callRes ps a.2 (k ds)
  | none => .bad := rfl
@[simp] theorem r_res (r : Bool × D × List D) : callRes ps ρ (.ok r) = .ok (r.1, r.2.1, if (if r.1 then r.2.1.calm else r.2.1.imm) then ρ else frzAll ps ρ) := rfl
@[simp] theorem r_resX (k : Str) (ρ' : En) : callRes ps ρ (.ex k d ρ') = .ex k d (frzAll ps ρ) := rfl
@[simp] theorem r_callIO (k : FD) : fCallIO k i ps ρ = match ρ[i]? with
  | some (some (true, _)) => (Pk.evs ps ρ).bind fun a => match Pk.gets ps a.1 a.2 with
    | some ds => match a.2[i]? with
      | some (some (true, .lst es0)) => if ps.all (fun p => !p.isVar i) then callResIO i ps a.2 (k (.lst es0 :: ds)) else .bad
      | _ => .bad
    | none => .bad
  | _ => .bad := by unfold fCallIO; rfl
@[simp] theorem r_resIO (fr : Bool) (es : List D) : callResIO i ps ρ (.ok (fr, d, [.lst es])) = .ok (fr, d, if (if fr then d.calm else d.imm) && D.immL es then ρ.set i (some (true, .lst es)) else (frzAll ps ρ).set i (some (true, .lst es))) := rfl
@[simp] theorem r_isVar0 : (Pk.val f).isVar j = false := rfl
@[simp] theorem r_isVar1 : (Pk.var i).isVar j = (i == j) := rfl
@[simp] theorem r_mut (k : MG) : fMut k i fs ρ = match ρ[i]? with
  | some (some (true, .lst _)) => (evA fs ρ).bind fun a => match a.2[i]? with
    | some (some (true, .lst ds)) => match k ds a.1 with
      | some r => .ok (false, r.1, a.2.set i (some (true, .lst r.2)))
      | none => .bad
    | _ => .bad
  | _ => .bad := by unfold fMut; rfl
@[simp] theorem r_ix : sIx i f g ρ = (g ρ).bind fun r => match r.2.2[i]? with
  | some (some (true, .lst _)) => (f r.2.2).bind fun s => match s.2.1, s.2.2[i]? with
    | .int k, some (some (true, .lst ds)) => match ixN ds.length k with
      | some j => .ok (.nx, s.2.2.set i (some (true, .lst (ds.set j r.2.1))))
      | none => .bad
    | _, _ => .bad
  | _ => .bad := by unfold sIx; rfl
@[simp] theorem r_sl (lo hi : Option EF) : fSl p lo hi ρ = (p.ev ρ).bind fun a => (fSlP lo a.2).bind fun l => (fSlP hi l.2).bind fun h => match p.get a.1 h.2 with
  | some d => match dSl l.1 h.1 d with
    | some r => .ok (r.1, r.2, h.2)
    | none => .bad
  | none => .bad := by unfold fSl; rfl
@[simp] theorem r_slP0 : fSlP none ρ = .ok (none, ρ) := rfl
theorem r_run (np nn : Nat) (io : Bool) (ds : List D) (hl : ds.length = np) : runF np nn io s ds = finF io (s (slots0 io ds ++ List.replicate (nn - np) none)) := by unfold runF; rw [if_pos hl]
end
section
variable {t : Tg} {b : SF} {Q : Fl × En → Prop}
theorem forL_wp (I : List D → En → Prop) (hs : ∀ d ds ρ, I (d :: ds) ρ → ∃ ρ1, t d ρ = some ρ1 ∧ (b ρ1).wp fun r => match r.1 with
    | .nx => I ds r.2
    | .ct => I ds r.2
    | .bk => Q (.nx, r.2)
    | .rt fr d => Q (.rt fr d, r.2)) (hd : ∀ ρ, I [] ρ → Q (.nx, ρ)) : ∀ (ds : List D) (ρ : En), I ds ρ → (forL t b ds ρ).wp Q
  | [], ρ, h => hd ρ h
  | d :: ds, ρ, h => by
    obtain ⟨ρ1, e, w⟩ := hs d ds ρ h
    unfold forL
    rw [e]
    refine O.wp_bind (O.wp_mono w fun r h => ?_)
    obtain ⟨fl, ρ2⟩ := r
    cases fl with
    | nx => exact forL_wp I hs hd ds ρ2 h
    | ct => exact forL_wp I hs hd ds ρ2 h
    | bk => exact h
    | rt fr d => exact h
theorem lcL_wp {vs : List Nat} {cs : TF} {f : EF} {Q : List D × En → Prop} (I : List D → List D → En → Prop) (hs : ∀ acc d ds ρ, I acc (d :: ds) ρ → ∃ ρ1, t d (wipeE ρ vs) = some ρ1 ∧ (cs ρ1).wp fun r => if r.1 = true then (f r.2).wp fun a => I (acc ++ [a.2.1]) ds a.2.2 else I acc ds r.2) :
    ∀ (ds : List D) (acc : List D) (ρ : En), I acc ds ρ → (∀ l ρ, I l [] ρ → ∀ l', l = acc ++ l' → Q (l', ρ)) → (lcL vs t cs f ds ρ).wp Q
  | [], acc, ρ, h, hd => hd acc ρ h [] (by simp)
  | d :: ds, acc, ρ, h, hd => by
    obtain ⟨ρ1, e, w⟩ := hs acc d ds ρ h
    unfold lcL
    rw [e]
    refine O.wp_bind (O.wp_mono w fun r h => ?_)
    by_cases hr : r.1 = true
    · rw [if_pos hr] at h ⊢
      refine O.wp_bind (O.wp_mono h fun a h => ?_)
      refine O.wp_bind (lcL_wp I hs ds (acc ++ [a.2.1]) a.2.2 h fun l ρ2 h2 l' e' => ?_)
      exact hd l ρ2 h2 (a.2.1 :: l') (by rw [e', List.append_assoc]; rfl)
    · rw [if_neg hr] at h ⊢
      exact lcL_wp I hs ds acc r.2 h hd
theorem fLc_wp {vs : List Nat} {fi : IF} {cs : TF} {f : EF} {ρ : En} {Q : Bool × D × En → Prop} (I : List D → List D → En → Prop)
    (h : (fi ρ).wp fun r => noOwn r.2 vs = true ∧ r.1.length ≤ 16777216 ∧ I [] r.1 r.2 ∧ ∀ l ρ2, I l [] ρ2 → Q (true, .lst l, backE r.2 ρ2 vs))
    (hs : ∀ acc d ds ρ, I acc (d :: ds) ρ → ∃ ρ1, t d (wipeE ρ vs) = some ρ1 ∧ (cs ρ1).wp fun r => if r.1 = true then (f r.2).wp fun a => I (acc ++ [a.2.1]) ds a.2.2 else I acc ds r.2) : (fLc vs fi t cs f ρ).wp Q := by
  unfold fLc
  refine O.wp_bind (O.wp_mono h fun r h => ?_)
  obtain ⟨h1, h2, h3, h4⟩ := h
  rw [if_pos (by rw [h1, decide_eq_true h2]; rfl)]
  obtain ⟨w, e, q⟩ := O.wp_ex (lcL_wp (Q := fun w => Q (true, .lst w.1, backE r.2 w.2 vs)) I hs r.1 [] r.2 h3 fun l ρ2 h l' e => by
    rw [List.nil_append] at e
    subst e
    exact h4 l ρ2 h)
  rw [e]
  exact q
end
end U
namespace U
set_option autoImplicit false
open PySem PySem.Spec PyProof.Rows L2
def sBad : SF := fun _ => .bad
theorem ds_bad {X : Cx} {c : Cc} {pr : Bool} {E : XK} {st : Stmt} : DS X c pr E st sBad := ⟨⟨fun pins s σ H D I q => by obtain ⟨ρ, Z, B, _, q⟩ := q; exact q.elim⟩⟩
section
variable {X : Cx} {c : Cc} {pr : Bool} {E : XK} {e : Expr} {f : EF} {pos pos' : Pos} {i : Nat} {x : Str}
end
def intsD : List D → Option (List Int)
  | [] => some []
  | .int i :: ds => (intsD ds).map (i :: ·)
  | _ :: _ => none
theorem intsD_map : ∀ {ds : List D} {ns : List Int}, intsD ds = some ns → ds = ns.map .int
  | [], ns, h => by cases h; rfl
  | d :: ds, ns, h => by
    cases d with
    | int i =>
      unfold intsD at h
      cases q : intsD ds with
      | none => rw [q] at h; cases h
      | some ms =>
        rw [q] at h
        cases h
        rw [List.map_cons, ← intsD_map q]
    | _ => cases h
theorem intsD_of : ∀ ns : List Int, intsD (ns.map .int) = some ns
  | [] => rfl
  | n :: ns => by rw [List.map_cons, intsD, intsD_of ns]; rfl
theorem repL_intsV {c : Cc} {A : Addr → Prop} {H : Hp} : ∀ {ns : List Int} {xs : List V}, RepL c A H xs (ns.map .int) → xs = ns.map V.int
  | [], _, h => by cases h; rfl
  | n :: ns, _, h => by
    cases h with
    | cons h1 h2 =>
      cases h1
      rw [List.map_cons, repL_intsV h2]
def dSum : List D → Option (Bool × D)
  | [.lst ds] => (intsD ds).map fun ns => (false, .int ns.sum)
  | _ => none
def insI (x : Int) : List Int → List Int
  | [] => [x]
  | y :: ys => if x ≤ y then x :: y :: ys else y :: insI x ys
def sortI (l : List Int) : List Int := l.foldr insI []
theorem insI_perm (x : Int) : ∀ l : List Int, List.Perm (insI x l) (x :: l)
  | [] => .refl _
  | y :: ys => by
    unfold insI
    split
    · exact .refl _
    · exact ((insI_perm x ys).cons y).trans (.swap _ _ _)
theorem sortI_perm : ∀ l : List Int, List.Perm (sortI l) l
  | [] => .refl _
  | x :: l => (insI_perm x _).trans ((sortI_perm l).cons x)
theorem insI_sorted (x : Int) : ∀ {l : List Int}, l.Pairwise (· ≤ ·) → (insI x l).Pairwise (· ≤ ·)
  | [], _ => List.pairwise_singleton _ _
  | y :: ys, h => by
    have h' := List.pairwise_cons.mp h
    unfold insI
    split
    · rename_i hx
      refine List.pairwise_cons.mpr ⟨fun z hz => ?_, h⟩
      rcases List.mem_cons.mp hz with e | e
      · rw [e]; exact hx
      · exact Int.le_trans hx (h'.1 z e)
    · rename_i hx
      refine List.pairwise_cons.mpr ⟨fun z hz => ?_, insI_sorted x h'.2⟩
      rcases List.mem_cons.mp ((insI_perm x ys).mem_iff.mp hz) with e | e
      · rw [e]; omega
      · exact h'.1 z e
theorem sortI_sorted : ∀ l : List Int, (sortI l).Pairwise (· ≤ ·)
  | [] => List.Pairwise.nil
  | x :: l => insI_sorted x (sortI_sorted l)
theorem sorted_one : ∀ {l l' : List Int}, l.Perm l' → l.Pairwise (· ≤ ·) → l'.Pairwise (· ≤ ·) → l = l'
  | [], l', p, _, _ => (List.Perm.nil_eq p)
  | x :: l, [], p, _, _ => absurd p.length_eq (by simp)
  | x :: l, y :: l', p, h, h' => by
    have a := List.pairwise_cons.mp h
    have b := List.pairwise_cons.mp h'
    have e : x = y := by
      have h1 : y ∈ x :: l := p.mem_iff.mpr List.mem_cons_self
      have h2 : x ∈ y :: l' := p.mem_iff.mp List.mem_cons_self
      rcases List.mem_cons.mp h1 with q | q
      · exact q.symm
      · rcases List.mem_cons.mp h2 with r | r
        · exact r
        · have := a.1 y q
          have := b.1 x r
          omega
    subst e
    rw [sorted_one (List.Perm.cons_inv p) a.2 b.2]
section
variable {X : Cx} {c : Cc}
theorem one_ints (hK : X.K = c.K) {A : Addr → Prop} {H : Hp} {vs : List V} {ds : List D} {ns : List Int} (h : RepTs c A H vs [.lst ds]) (e : intsD ds = some ns) : ∃ a, vs = [.ref a] ∧ SqL X.K H a (ns.map V.int) := by
  obtain ⟨v, rfl, hv⟩ := repTs1 h
  obtain ⟨a, xs, rfl, h1, h2⟩ := repT_lst hv
  rw [intsD_map e] at h2
  rw [repL_intsV h2] at h1
  exact ⟨a, rfl, .inl (.inl h1)⟩
theorem gs_sum (hK : X.K = c.K) : GSN c dSum (rSum X.K) := by
  intro A H vs ds fr d Q h e k
  unfold dSum at e
  split at e
  case h_2 => cases e
  rename_i ds
  cases q : intsD ds with
  | none => rw [q] at e; cases e
  | some ns =>
    rw [q] at e
    cases e
    obtain ⟨a, rfl, h1⟩ := one_ints hK h q
    exact ⟨a, ns, rfl, h1, k _ H (new_self (.int _))⟩
end
section
variable {X : Cx} {c : Cc} {E : XK} {e : Expr} {ps : List Pk} {p pos : Pos}
end
end U
namespace U
set_option autoImplicit false
open PySem PySem.Spec PyProof.Rows L2
section
variable {X : Cx} {c : Cc} {E : XK} {o e : Expr} {p q : Pk} {apos cpos : Pos}
end
end U
namespace U
set_option autoImplicit false
open PySem PySem.Spec PyProof.Rows L2
section
variable {P : Program} {w : World} {A : Around} {E : Value → Shared → Prop} {s : Shared}
set_option maxHeartbeats 8000000 in
theorem call_set_lisR {l : Addr} {items : Array Value} (ns : List Int) {Q : Value → Shared → Prop} (hh : A.handled = none) (hl : s.heap.IsList l items) (hit : IntsAre items.toList ns) (hb : ns.length + 1 < scanBound)
    (h : ∀ (h' : Heap) (tk c : Nat), SetR w h' s.heap.objs.size (fun j => decide (j ∈ ns)) c → c ≤ ns.length → (∀ b o, s.heap.get? b = some o → h'.get? b = some o) → Q (.ref s.heap.objs.size) { s with heap := h', toks := tk }) :
    wpAny (model P w) A (call (.type "set") [.ref l]) Q E s := by
  have hisz : items.size = ns.length := by
    have q := IntsAre.length hit
    rw [Array.length_toList] at q
    exact q
  obtain ⟨c, tl, hmro⟩ := F.called_set.mro
  have hmade := F.called_set.made
  have hsub := F.called_set.sub
  refine wpAny_call (codeAny_of_tree ?_)
  show wpAny _ _ (callAny (.type "set") _) _ _ _
  refine wpAny_pure ⟨Code.quiet_builtin _ (by decide +kernel), codeAny_builtin F.entry_type_call ?_⟩
  rw [Around.under_plain (weight_type_call_type "set" [.ref l] []) rfl]
  have h1 := F.called_set.notType
  have h2 := F.called_set.canCreate
  have hct := F.typeCall_set_1 (.ref l)
  repeat (any_goals (first | assumption | wp_step))

  refine codeAny_mono (code_set_led1 (.ref l) (E := E) (Q₁ := fun obj s₁ => obj = .ref s.heap.objs.size ∧ s₁ = { s with heap := s.heap.push { cls := .type "set", dict := none, data := .set #[] 0 (.fresh 0 0 (!w.params.followText "set-order")) } }) ⟨rfl, rfl⟩) fun r s₁ hr => ?_
  cases r with
  | error e => exact hr
  | ok fl =>
    cases fl with
    | ret obj =>
      obtain ⟨rfl, rfl⟩ := hr
      have hS : (s.heap.push { cls := .type "set", dict := none, data := .set #[] 0 (.fresh 0 0 (!w.params.followText "set-order")) }).get? s.heap.objs.size = some { cls := .type "set", dict := none, data := .set #[] 0 (.fresh 0 0 (!w.params.followText "set-order")) } := Heap.get?_push_size _ rfl
      have hT : Shared.TypeIs { s with heap := s.heap.push { cls := .type "set", dict := none, data := .set #[] 0 (.fresh 0 0 (!w.params.followText "set-order")) } } (.ref s.heap.objs.size) "set" := ⟨_, hS, rfl⟩
      have hli := F.called_set.init.lookup
      have hbi := F.called_set.init.bind (.ref s.heap.objs.size)
      repeat (any_goals (first | assumption | wp_step))

      refine codeAny_mono (codeAny_call_builtin (R := wants (fun r s₂ => r = .none ∧ ∃ h' tk c, s₂ = { s with heap := h', toks := tk } ∧ SetR w h' s.heap.objs.size (fun j => decide (j ∈ ns)) c ∧ c ≤ ns.length ∧
          (∀ b o, s.heap.get? b = some o → h'.get? b = some o)) E) F.called_set.init.plain F.entry_set_init (check_set_init_1 hT ?_)) fun r₂ s₂ hr₂ => ?_
      · obtain ⟨ol, hol, hcl, nl, hdl⟩ := hl
        obtain ⟨ocls, odict, odata, oslots⟩ := ol
        simp only at hcl hdl
        subst hcl; subst hdl
        have hol' : (s.heap.push { cls := .type "set", dict := none, data := .set #[] 0 (.fresh 0 0 (!w.params.followText "set-order")) }).get? l = some { cls := .type "list", dict := odict, data := .seq items nl, slots := oslots } := Heap.get?_push_of_some _ hol
        have hsls := F.sub_list_set
        have hslf := F.sub_list_frozenset
        have hne : (Value.type "list" == Value.type "dict") = false := by decide
        have hl1 : (s.heap.push { cls := .type "set", dict := none, data := .set #[] 0 (.fresh 0 0 (!w.params.followText "set-order")) }).IsList l items := ⟨_, hol', rfl, nl, rfl⟩
        unfold Builtin.«set.__init__» noKeywords Builtin.Frozenset.updateFrom
        generalize hPI : pyIter = PI
        wp_walk
        subst hPI

        refine wpAny_pyIter_list hl1 ?_
        refine wpAny_bind (wpAny_runValue ?_)
        have hlS : l < s.heap.objs.size := Heap.lt_size hol
        have hh3 : A.in1.in1.in1.handled = none := by simp [hh]
        have hz1 : (s.heap.push { cls := .type "set", dict := none, data := .set #[] 0 (.fresh 0 0 (!w.params.followText "set-order")) }).objs.size = s.heap.objs.size + 1 := Heap.size_push ..
        have hneI : l ≠ (s.heap.push { cls := .type "set", dict := none, data := .set #[] 0 (.fresh 0 0 (!w.params.followText "set-order")) }).objs.size := by
          rw [Heap.size_push]; exact Nat.ne_of_lt (Nat.lt_succ_of_lt hlS)
        have hSf : s.heap.objs.size ∉ [(s.heap.push { cls := .type "set", dict := none, data := .set #[] 0 (.fresh 0 0 (!w.params.followText "set-order")) }).objs.size, l] := by
          rw [Heap.size_push]; simp only [List.mem_cons, List.mem_singleton, List.not_mem_nil, or_false, not_or]
          exact ⟨Nat.ne_of_lt (Nat.lt_succ_self _), Nat.ne_of_gt hlS⟩
        have hval : ∀ (i : Nat) (v : Value), items[i]? = some v → ∃ k t, ns[i]? = some k ∧ v = .int k t := fun i v hv => by
          have hi : i < ns.length := by rw [← hisz]; exact (Array.getElem?_eq_some_iff.mp hv).1
          obtain ⟨t, e⟩ := PyProof.Rows.IntsAre.int_at hit i v (by rw [Array.getElem?_toList]; exact hv)
          refine ⟨ns[i], t, List.getElem?_eq_getElem hi, ?_⟩
          rw [e, List.getD_eq_getElem?_getD, List.getElem?_eq_getElem hi] <;> rfl
        refine set_update_ints ((Walks.list hh3 _ l hneI items).toS) s.heap.objs.size
          hSf ns hisz hb hval (items.size - 0) 0 _ (by omega) (Nat.zero_le _)
          ⟨⟨_, Heap.get?_push_size _ rfl, rfl, rfl⟩, (hl1.push _)⟩ ?hS0 ?hR
        case hS0 =>
          have hget : ((s.heap.push { cls := .type "set", dict := none, data := .set #[] 0 (.fresh 0 0 (!w.params.followText "set-order")) }).push { cls := .type "list_iterator", data := .fields #[.ref l, .int 0 0] }).get? s.heap.objs.size
              = some { cls := .type "set", dict := none, data := .set #[] 0 (.fresh 0 0 (!w.params.followText "set-order")) } := Heap.get?_push_of_some _ hS
          exact ⟨0, Nat.le_refl 0, setR_new_at hget⟩
        case hR =>
          intro s' c' hm hc' hS'
          obtain ⟨h', g2, d', tk', os'⟩ := s'
          have eg : g2 = s.gens := hm.gens
          have ed : d' = s.drawn := hm.drawn
          have eo : os' = s.os := hm.os
          subst eg; subst ed; subst eo
          show wpAny _ _ _ _ _ _
          refine wpAny_pure ?_
          show wpAny _ _ (ret Value.none) _ _ _
          rw [hisz] at hc'
          refine wpAny_pure ⟨rfl, h', tk', c', rfl, hS', hc', fun b o e => ?_⟩
          have hb0 : b < s.heap.objs.size := Heap.lt_size e
          have hb1 : b ≠ s.heap.objs.size := Nat.ne_of_lt hb0
          have hb2 : b ≠ (s.heap.push { cls := .type "set", dict := none, data := .set #[] 0 (.fresh 0 0 (!w.params.followText "set-order")) }).objs.size := by
            rw [Heap.size_push]; exact Nat.ne_of_lt (Nat.lt_succ_of_lt hb0)
          exact hm.heap b o (by simp only [List.mem_cons, List.mem_singleton, List.not_mem_nil, or_false, not_or]; exact ⟨hb1, hb2⟩) (Heap.get?_push_of_some _ (Heap.get?_push_of_some _ e))

      · cases r₂ with
        | error e => exact hr₂
        | ok fl₂ =>
          cases fl₂ with
          | ret r =>
            obtain ⟨rfl, h', tk, c', rfl, hS', hc', hk'⟩ := hr₂
            repeat (any_goals (first | assumption | wp_step))
            exact h _ _ _ hS' hc' hk'
          | _ => exact hr₂.elim
    | _ => exact hr.elim

end
section
variable {X : Cx} {c : Cc} {E : XK} {e : Expr} {ps : List Pk} {p pos p1 pos1 : Pos}
end
end U
namespace U
set_option autoImplicit false
open PySem PySem.Spec PyProof.Rows L2
section
variable {X : Cx} {c : Cc} {pr : Bool} {E : XK} {pos : Pos}
end
end U
namespace U
set_option autoImplicit false
open PySem PySem.Spec PyProof.Rows L2
abbrev lfV : L2.Key → V := kV
def knk : L2.Key → NestedKey
  | .inl i => .num i
  | .inr x => .text x
theorem leaf_of {c : Cc} {A : Addr → Prop} {H : Hp} {v : V} {d : D} {l : L2.Key} (r : Rep c A H v d) (e : d.lf = some l) : v = lfV l := by
  cases d <;> first | (cases e; done) | (cases e; cases r; rfl)
theorem leaf_is {P : Program} {w : World} {l : L2.Key} {u : Value} (r : RelV (lfV l) u) : (mixKind P w).is l u = true := kV_is r
theorem lf_nk {d : D} {l : L2.Key} (e : d.lf = some l) : d.nk = some (knk l) := by
  cases d <;> first | (cases e; done) | (cases e; rfl)
section
variable {X : Cx} {pins : List (Addr × Obj)} {σ : St} {H : Hp} {s : Shared} {c : Cc} {A : Addr → Prop}
mutual
theorem nested_of (I : Inv X pins σ H s) (hK : X.K = c.K) : ∀ (d : D) (v : V) (u : Value) (k : NestedKey), Rep c A H v d → RelV v u → d.nk = some k → NestedIs s.heap k u
  | .non, _, u, _, h, r, e => by cases h; cases e; cases (show u = Value.none from r); exact .none
  | .bl _, _, _, _, _, _, e => by cases e
  | .int i, _, u, _, h, r, e => by cases h; cases e; obtain ⟨t, rfl⟩ := (show ∃ t, u = Value.int i t from r); exact .int i t
  | .str x, _, u, _, h, r, e => by cases h; cases e; obtain ⟨t, rfl⟩ := (show ∃ t, u = Value.str x t from r); exact .text x t
  | .tup ds, _, u, k, h, r, e => by
    have e' : (D.nkL ds).map NestedKey.tup = some k := e
    cases h with
    | @tup a xs _ h1 h2 =>
      cases (show u = Value.ref a from r)
      cases q : D.nkL ds with
      | none => rw [q] at e'; cases e'
      | some ks =>
        rw [q] at e'
        cases e'
        obtain ⟨its, rv, p, _⟩ := I.tuple (a := a) (xs := xs) (by rw [hK]; exact h1)
        obtain ⟨o, ho, hc, n, hd⟩ := (show s.heap.IsTuple a its.toArray from p)
        exact .tup ho hc hd (nested_ofL I hK ds xs its ks h2 rv q)
  | .lst _, _, _, _, _, _, e => by cases e
  | .dic _ _, _, _, _, _, _, e => by cases e
  | .fn _, _, _, _, _, _, e => by cases e
  | .exc _ _, _, _, _, _, _, e => by cases e
  | .scr _, _, _, _, _, _, e => by cases e
theorem nested_ofL (I : Inv X pins σ H s) (hK : X.K = c.K) : ∀ (ds : List D) (vs : List V) (us : List Value) (ks : List NestedKey), RepL c A H vs ds → Vals vs us → D.nkL ds = some ks → NestedAll s.heap ks us
  | [], _, _, _, h, r, e => by cases h; cases r; cases e; exact .nil
  | d :: ds, _, _, ks, h, r, e => by
    cases h with
    | cons h1 h2 =>
      cases r with
      | cons r1 r2 =>
        have e' : (match d.nk, D.nkL ds with | some k, some ks => some (k :: ks) | _, _ => none) = some ks := e
        cases q1 : d.nk with
        | none => rw [q1] at e'; cases e'
        | some k =>
          cases q2 : D.nkL ds with
          | none => rw [q1, q2] at e'; cases e'
          | some ks2 =>
            rw [q1, q2] at e'
            cases e'
            exact .cons (nested_of I hK d _ _ k h1 r1 q1) (nested_ofL I hK ds _ _ ks2 h2 r2 q2)
end
end
def DcK (X : Cx) (H : Hp) (a : Addr) (m : List (NestedKey × V)) : Prop := ∃ (kvs : List (L2.Key × V)) (ob : Obj), H a = some (DkO X.prog X.w a kvs ob) ∧ m = kvs.map fun p => ((knk p.1), p.2)
def NKs (X : Cx) (H : Hp) (k : NestedKey) (b : Addr) : Prop := ∀ (pins : List (Addr × Obj)) (σ : St) (s : Shared), Inv X pins σ H s → NestedIs s.heap k (.ref b)
def DcT' (X : Cx) (H : Hp) (a : Addr) (kvs : List (NestedKey × Addr × V)) : Prop := ((∃ ob, H a = some (DtO X.prog X.w a kvs ob)) ∧ ∀ p ∈ kvs, NKs X H p.1 p.2.1) ∨ (kvs = [] ∧ ∃ ob, H a = some (DkO X.prog X.w a [] ob))
def DcT (X : Cx) (H : Hp) (a : Addr) (m : List (NestedKey × V)) : Prop := ∃ kvs, DcT' X H a kvs ∧ m = kvs.map fun p => (p.1, p.2.2)
def KyT (X : Cx) (H : Hp) (y : V) (k : NestedKey) : Prop := ∃ b, y = .ref b ∧ k.depth ≤ 8 ∧ NKs X H k b
def DLk (X : Cx) (H : Hp) (a : Addr) (y : V) (r : Option V) : Prop := ∃ m k, ((DcK X H a m ∧ ∃ l : L2.Key, y = lfV l ∧ k = (knk l)) ∨ (DcT X H a m ∧ KyT X H y k)) ∧ r = valV m k
def IsDic (X : Cx) (H : Hp) (a : Addr) (n : Nat) : Prop := (∃ m, DcK X H a m ∧ m.length = n) ∨ ∃ m, DcT X H a m ∧ m.length = n
section
variable {X : Cx} {pins : List (Addr × Obj)} {σ : St} {H : Hp} {s : Shared} {a : Addr}
theorem dk_at {kvs : List (L2.Key × V)} {ob : Obj} (I : Inv X pins σ H s) (h : H a = some (DkO X.prog X.w a kvs ob)) : kvs.length ≤ sizeLine ∧ (a == sysModules) = false ∧ ∃ vs, KV kvs vs ∧ s.heap.DictOf (mixKind X.prog X.w) a vs := (I.hok a _ h).1.2
theorem kw_mem {kvs : List (NestedKey × Addr × V)} {xs : List (NestedKey × Addr × Value)} (r : KW kvs xs) : ∀ x ∈ xs, ∃ p ∈ kvs, p.1 = x.1 ∧ p.2.1 = x.2.1 := by
  unfold KW at r
  induction r with
  | nil => exact fun _ h => nomatch h
  | @cons p q ps qs h t ih =>
    intro x hx
    rcases List.mem_cons.mp hx with e | e
    · subst e; exact ⟨p, List.mem_cons_self, h.1, h.2.1⟩
    · obtain ⟨p', h1, h2⟩ := ih x e
      exact ⟨p', List.mem_cons_of_mem _ h1, h2⟩
theorem dt_at {kvs : List (NestedKey × Addr × V)} (I : Inv X pins σ H s) (h : DcT' X H a kvs) : kvs.length ≤ sizeLine ∧ (a == sysModules) = false ∧ (∀ p ∈ kvs, p.1.depth ≤ 8) ∧ ∃ xs, KW kvs xs ∧ s.heap.DictOfH (nestedKind X.prog X.w) a xs := by
  rcases h with ⟨⟨ob, h⟩, hn⟩ | ⟨rfl, ob, h⟩
  · obtain ⟨_, h1, h2, h3, xs, r, o, es, ep, h4, h5, h6, h7, h8⟩ := ((I.hok a _ h).1)
    refine ⟨h1, h2, h3, xs, r, o, es, ep, h4, h5, h6, h7, fun x hx => ?_, h8⟩
    obtain ⟨p, hp, e1, e2⟩ := kw_mem r x hx
    have := hn p hp pins σ s I
    rw [e1, e2] at this
    exact ⟨this, by rw [← e1]; exact h3 p hp⟩
  · obtain ⟨h1, h2, vs, r, o, es, ep, h4, h5, h6, h7, h8, h9⟩ := dk_at I h
    cases r
    refine ⟨h1, h2, (fun _ h => nomatch h), [], .nil, o, es, ep, h4, h5, h6, ?_, (fun _ h => nomatch h), List.nodup_nil⟩
    have := h8.length
    exact List.eq_nil_of_length_eq_zero this
theorem kw_val {kvs : List (NestedKey × Addr × V)} {xs : List (NestedKey × Addr × Value)} (r : KW kvs xs) (k : NestedKey) : RelO (valV (kvs.map fun p => (p.1, p.2.2)) k) ((atKey xs k).map (·.2)) := by
  unfold KW at r
  induction r with
  | nil => exact True.intro
  | @cons p q ps qs h t ih =>
    rw [List.map_cons]
    by_cases e : p.1 = k
    · rw [valV_pos (p := (p.1, p.2.2)) e]
      have : atKey (q :: qs) k = some (q.2.1, q.2.2) := by
        unfold atKey
        rw [List.find?_cons, decide_eq_true (show q.1 = k by rw [← h.1]; exact e)]
        rfl
      rw [this]
      exact h.2.2
    · rw [valV_neg (p := (p.1, p.2.2)) e]
      have : atKey (q :: qs) k = atKey qs k := by
        unfold atKey
        rw [List.find?_cons, decide_eq_false (show ¬ q.1 = k by rw [← h.1]; exact e)]
      rw [this]
      exact ih
theorem key_inj' {l m : L2.Key} (e : knk l = knk m) : l = m := by
  cases l <;> cases m <;> cases e <;> rfl
theorem valV_key (kvs : List (L2.Key × V)) (l : L2.Key) : valV (kvs.map fun p => ((knk p.1), p.2)) (knk l) = valV kvs l := by
  induction kvs with
  | nil => rfl
  | cons p r ih =>
    rw [List.map_cons]
    by_cases e : p.1 = l
    · rw [valV_pos (p := ((knk p.1), p.2)) (by rw [e]), valV_pos e]
    · rw [valV_neg (p := ((knk p.1), p.2)) (fun z => e (key_inj' z)), valV_neg e, ih]
theorem room8 {A : Around} (hu : A.units + 64 < cLine) : (nestedKind X.prog X.w).room A.in1 := by
  show A.units + 1 + 8 < cLine
  omega
theorem isDic_at {n : Nat} (I : Inv X pins σ H s) (d : IsDic X H a n) : s.TypeIs (.ref a) "dict" ∧ (∀ b, Value.ref a = .ref b → ∃ ob, s.heap.get? b = some ob ∧ ob.dict = none) ∧ (a == sysModules) = false := by
  rcases d with ⟨m, ⟨kvs, ob, h, _⟩, _⟩ | ⟨m, ⟨kvs, h, _⟩, _⟩
  · obtain ⟨_, hd, vs, _, dd⟩ := dk_at I h
    refine ⟨dd.typeIs, fun b q => ?_, hd⟩
    cases q
    obtain ⟨ob, _, _, h1, h2, _⟩ := dd
    exact ⟨ob, h1, h2.2.1⟩
  · obtain ⟨_, hd, _, xs, _, dd⟩ := dt_at I h
    refine ⟨dd.typeIs, fun b q => ?_, hd⟩
    cases q
    obtain ⟨ob, _, _, h1, h2, _⟩ := dd
    exact ⟨ob, h1, h2.2.1⟩
theorem DLk.isDic {y : V} {r : Option V} (g : DLk X H a y r) : ∃ n, IsDic X H a n := by
  obtain ⟨m, k, h | h, _⟩ := g
  · exact ⟨_, .inl ⟨m, h.1, rfl⟩⟩
  · exact ⟨_, .inr ⟨m, h.1, rfl⟩⟩
end
section
variable {X : Cx} {pins : List (Addr × Obj)} {σ : St} {H : Hp} {s : Shared} {a : Addr} {y v d : V} {u r : Value} {o : Option V} {A : Around} {E : Value → Shared → Prop}
theorem g_getItem {Q : Value → Shared → Prop} (hu : A.units + 64 < cLine) (I : Inv X pins σ H s) (g : DLk X H a y (some v)) (ry : RelV y u) (h : ∀ w' s', Inv X pins σ H s' → RelV v w' → Q w' s') :
    wpAny (model X.prog X.w) A (getItem (.ref a) u) Q E s := by
  obtain ⟨m, k, ⟨⟨kvs, ob, e, rfl⟩, l, ey, rfl⟩ | ⟨⟨kvs, e, rfl⟩, b, ey, hdp, hb⟩, l0⟩ := g
  · subst ey
    rw [valV_key] at l0
    obtain ⟨z, hd, vs, rel, dd⟩ := dk_at I e
    obtain ⟨w', hw, rw'⟩ := RelO.some_of (v := v) (o := valueAt vs l) (by rw [l0]; exact rel.val l)
    exact wpAny_getItem_of (leaf_is ry) dd.mapOf hw (h w' _ (I.tok _) rw')
  · subst ey
    cases (show u = Value.ref b from ry)
    obtain ⟨z, hd, hdk, xs, rel, dd⟩ := dt_at I e
    obtain ⟨w', hw, rw'⟩ := RelO.some_of (v := v) (o := (atKey xs k).map (·.2)) (by rw [l0]; exact kw_val rel k)
    obtain ⟨p, hp, hp2⟩ := Option.map_eq_some_iff.mp hw
    refine wpAny_getItem_heap (room8 hu) ⟨hb pins σ s I, hdp⟩ dd hp ?_
    rw [hp2]
    exact h w' _ (I.tok _) rw'
end
end U
namespace U
set_option autoImplicit false
open PySem PySem.Spec PyProof.Rows L2
section
variable {X : Cx} {pins : List (Addr × Obj)} {σ : St} {H : Hp} {s : Shared} {a : Addr} {y v d : V} {u r : Value} {o : Option V} {A : Around} {E : Value → Shared → Prop}
end
section
variable {X : Cx}
def rIxC (X : Cx) : R2 := fun x y H Q => ∃ a v, x = .ref a ∧ DLk X H a y (some v) ∧ Q v H
theorem ix_dic (hu : X.A.units + 64 < cLine) : IxR X (rIxC X) := by
  intro value slice pins s σ H x y v u Q I rx ry h hs
  obtain ⟨a, z, rfl, g, q⟩ := h
  obtain rfl : v = Value.ref a := rx
  obtain ⟨n, hd⟩ := g.isDic
  exact tail_any (isDic_at I hd).1 PySem.F.slot_dict_getitem.lookup (g_getItem hu I g ry fun w' s' I' r' => ⟨z, H, I', r', q⟩) hs
theorem call_lenC : CallR X (.builtin "len") (fun xs H Q => ∃ a n, xs = [V.ref a] ∧ IsDic X H a n ∧ Q (.int n) H) := by
  intro pins s σ H xs us Q I r h
  obtain ⟨a, n, rfl, hd, q⟩ := h
  obtain ⟨u, rfl, ru⟩ := vals1 r
  cases ru
  rcases hd with ⟨m, ⟨kvs, ob, h, rfl⟩, hn⟩ | ⟨m, ⟨kvs, h, rfl⟩, hn⟩
  · rw [List.length_map] at hn
    obtain ⟨z, hd, vs, rel, dd⟩ := dk_at I h
    refine call_len_dict hd dd (by rw [← rel.length]; rw [sizeLine_eq] at z; omega) ?_
    rw [← rel.length, hn]
    exact ⟨.int n, H, I.tok _, ⟨_, rfl⟩, q⟩
  · rw [List.length_map] at hn
    obtain ⟨z, hd, _, xs, rel, dd⟩ := dt_at I h
    have hl : xs.length = kvs.length := (Paired.length rel).symm
    have dk : s.heap.DictKeyed (nestedKind X.prog X.w) a (pairsH xs) := ⟨xs, dd, rfl⟩
    have hpl : (pairsH xs).length = n := by rw [pairsH_length, hl, hn]
    refine PyProof.Rows.call_len_slot (n := (pairsH xs).length) dk.typeIs PySem.F.slot_dict_len (fun Q' hq => len_keyed hd dk hq) (by omega) (by rw [sizeLine_eq] at z; omega) ?_
    rw [hpl]
    exact ⟨.int n, H, I.tok _, ⟨_, rfl⟩, q⟩
end
end U
namespace U
set_option autoImplicit false
open PySem PySem.Spec PyProof.Rows L2
def D.isLf (d : D) : Bool := d.lf.isSome
def D.isTk : D → Bool
  | .tup ds => match D.nkL ds with
    | some ks => decide ((NestedKey.tup ks).depth ≤ 8)
    | none => false
  | _ => false
def dKd (ks : List D) (d : D) : Bool := (d.isLf && ks.all D.isLf) || (d.isTk && ks.all D.isTk)
def dLook : List D → List D → D → Option D
  | k :: ks, v :: vs, d => if k.nk = d.nk then some v else dLook ks vs d
  | _, _, _ => none
theorem isTk_nk {d : D} (h : d.isTk = true) : ∃ ks, d.nk = some (.tup ks) ∧ (NestedKey.tup ks).depth ≤ 8 ∧ ∃ ds, d = .tup ds := by
  cases d with
  | tup ds =>
    unfold D.isTk at h
    dsimp only at h
    cases q : D.nkL ds with
    | none => rw [q] at h; cases h
    | some ks =>
      rw [q] at h
      exact ⟨ks, by show (D.nkL ds).map NestedKey.tup = _; rw [q]; rfl, of_decide_eq_true h, ds, rfl⟩
  | _ => cases h
theorem isLf_lf {d : D} (h : d.isLf = true) : ∃ l, d.lf = some l := Option.isSome_iff_exists.mp h
theorem lf_not_tk {d : D} (h : d.isLf = true) (h' : d.isTk = true) : False := by
  obtain ⟨_, _, _, ds, rfl⟩ := isTk_nk h'
  cases h
def DicRep (c : Cc) (A : Addr → Prop) (H : Hp) (a : Addr) (ks vs : List D) : Prop :=
  (∃ (kvs : List (L2.Key × V)) (ob : Obj), H a = some (DkO c.P c.w a kvs ob) ∧ ks.map D.lf = kvs.map (fun p => some p.1) ∧ RepL c A H (kvs.map (·.2)) vs) ∨
  ∃ (kvs : List (NestedKey × Addr × V)) (ob : Obj), H a = some (DtO c.P c.w a kvs ob) ∧ kvs ≠ [] ∧ ks.map D.nk = kvs.map (fun p => some p.1) ∧ RepL c A H (kvs.map fun p => V.ref p.2.1) ks ∧ RepL c A H (kvs.map (·.2.2)) vs
theorem cell_dic {c : Cc} {A : Addr → Prop} {H : Hp} {a : Addr} {ks vs ds : List D} {xs : List V} (h : Cell c H a (.dic ks vs) xs ds) (r : RepL c A H xs ds) : DicRep c A H a ks vs := by
  cases h with
  | dicK h h1 => exact .inl ⟨_, _, h, h1, r⟩
  | dicT h hne h1 =>
    have hl := congrArg List.length h1
    rw [List.length_map, List.length_map] at hl
    have := RepL.split (by rw [List.length_map]; exact hl.symm) r
    exact .inr ⟨_, _, h, hne, h1, this.1, this.2⟩
theorem repT_dic {c : Cc} {A : Addr → Prop} {H : Hp} {v : V} {ks vs : List D} (h : RepT c A H v (.dic ks vs)) : ∃ a, v = .ref a ∧ DicRep c A H a ks vs := by
  rcases h with h | ⟨a, ds, xs, rfl, h1, h2⟩
  · cases h with
    | dicK h1 _ h3 h4 => exact ⟨_, rfl, .inl ⟨_, _, h1, h3, h4⟩⟩
    | dicT h1 _ h2 h3 h4 h5 => exact ⟨_, rfl, .inr ⟨_, _, h1, h2, h3, h4, h5⟩⟩
  · exact ⟨a, rfl, cell_dic h1 h2⟩
section
variable {X : Cx} {c : Cc} {A : Addr → Prop} {H : Hp} {a : Addr} {ks vs : List D}
abbrev COk (X : Cx) (c : Cc) : Prop := X.K = c.K ∧ c.P = X.prog ∧ c.w = X.w
theorem nks_of (hC : COk X c) : ∀ {kvs : List (NestedKey × Addr × V)} {ks : List D}, ks.map D.nk = kvs.map (fun p => some p.1) → RepL c A H (kvs.map fun p => V.ref p.2.1) ks → ∀ p ∈ kvs, NKs X H p.1 p.2.1
  | [], _, _, _ => fun _ h => nomatch h
  | p :: kvs, ks, e, r => by
    cases ks with
    | nil => cases e
    | cons k ks =>
      rw [List.map_cons, List.map_cons] at e
      rw [List.map_cons] at r
      injection e with e1 e2
      cases r with
      | cons r1 r2 =>
        intro q hq
        rcases List.mem_cons.mp hq with z | z
        · subst z
          exact fun pins σ s I => nested_of I hC.1 k _ _ _ r1 rfl e1
        · exact nks_of hC e2 r2 q z
theorem kyT_of (hC : COk X c) {y : V} {d : D} (h : Rep c A H y d) (hk : d.isTk = true) : ∃ k, d.nk = some k ∧ KyT X H y k := by
  obtain ⟨ks, e, hd, ds, rfl⟩ := isTk_nk hk
  cases h with
  | tup h1 h2 => exact ⟨_, e, _, rfl, hd, fun pins σ s I => nested_of I hC.1 (.tup ds) _ _ _ (.tup h1 h2) rfl e⟩
theorem look_K : ∀ {kvs : List (L2.Key × V)} {ks vs : List D} {d : D} {l : L2.Key}, ks.map D.lf = kvs.map (fun p => some p.1) → RepL c A H (kvs.map (·.2)) vs → d.nk = some (knk l) →
    (match dLook ks vs d with | some x => ∃ v, valV kvs l = some v ∧ Rep c A H v x | none => valV kvs l = none)
  | [], ks, vs, d, l, e, r, ed => by
    cases ks with
    | nil => unfold dLook; exact valV_nil
    | cons k ks => cases e
  | p :: kvs, ks, vs, d, l, e, r, ed => by
    cases ks with
    | nil => cases e
    | cons k ks =>
      rw [List.map_cons, List.map_cons] at e
      rw [List.map_cons] at r
      injection e with e1 e2
      cases r with
      | @cons v0 _ d0 ds0 r1 r2 =>
        unfold dLook
        by_cases q : p.1 = l
        · rw [if_pos (by rw [ed, lf_nk e1, q])]
          exact ⟨_, valV_pos q, r1⟩
        · rw [if_neg (fun z => q (by rw [ed, lf_nk e1] at z; exact key_inj' (Option.some.inj z)))]
          rw [valV_neg q]
          exact look_K e2 r2 ed
theorem look_T : ∀ {kvs : List (NestedKey × Addr × V)} {ks vs : List D} {d : D} {k : NestedKey}, ks.map D.nk = kvs.map (fun p => some p.1) → RepL c A H (kvs.map (·.2.2)) vs → d.nk = some k →
    (match dLook ks vs d with | some x => ∃ v, valV (kvs.map fun p => (p.1, p.2.2)) k = some v ∧ Rep c A H v x | none => valV (kvs.map fun p => (p.1, p.2.2)) k = none)
  | [], ks, vs, d, l, e, r, ed => by
    cases ks with
    | nil => unfold dLook; exact valV_nil
    | cons k ks => cases e
  | p :: kvs, ks, vs, d, l, e, r, ed => by
    cases ks with
    | nil => cases e
    | cons k ks =>
      rw [List.map_cons, List.map_cons] at e
      rw [List.map_cons] at r
      injection e with e1 e2
      cases r with
      | @cons v0 _ d0 ds0 r1 r2 =>
        unfold dLook
        rw [List.map_cons]
        by_cases q : p.1 = l
        · rw [if_pos (by rw [ed, e1, q])]
          exact ⟨_, valV_pos (p := (p.1, p.2.2)) q, r1⟩
        · rw [if_neg (fun z => q (by rw [ed, e1] at z; exact Option.some.inj z))]
          rw [valV_neg (p := (p.1, p.2.2)) q]
          exact look_T e2 r2 ed
theorem all_lf_T {kvs : List (NestedKey × Addr × V)} (h : ks.all D.isLf = true) (hne : kvs ≠ []) (r : RepL c A H (kvs.map fun p => V.ref p.2.1) ks) : False := by
  cases kvs with
  | nil => exact hne rfl
  | cons p kvs =>
    rw [List.map_cons] at r
    cases r with
    | @cons _ _ d _ r1 _ =>
      rw [List.all_cons, Bool.and_eq_true] at h
      obtain ⟨l, e⟩ := isLf_lf h.1
      have := leaf_of r1 e
      cases l <;> cases this
theorem all_tk_K {kvs : List (L2.Key × V)} (h : ks.all D.isTk = true) (e : ks.map D.lf = kvs.map (fun p => some p.1)) : kvs = [] ∧ ks = [] := by
  cases kvs with
  | nil => exact ⟨rfl, by simpa using e⟩
  | cons p kvs =>
    cases ks with
    | nil => cases e
    | cons k ks =>
      rw [List.map_cons, List.map_cons] at e
      injection e with e1 _
      rw [List.all_cons, Bool.and_eq_true] at h
      exact (lf_not_tk (by unfold D.isLf; rw [e1]; rfl) h.1).elim
theorem dlk_of (hC : COk X c) {y : V} {d : D} (h : DicRep c A H a ks vs) (hy : Rep c A H y d) (hk : dKd ks d = true) :
    ∃ o, DLk X H a y o ∧ (match dLook ks vs d with | some x => ∃ v, o = some v ∧ Rep c A H v x | none => o = none) := by
  unfold dKd at hk
  rw [Bool.or_eq_true, Bool.and_eq_true, Bool.and_eq_true] at hk
  rcases h with ⟨kvs, ob, h1, h2, h3⟩ | ⟨kvs, ob, h1, hne, h2, h3, h4⟩
  · rw [hC.2.1, hC.2.2] at h1
    rcases hk with ⟨k1, k2⟩ | ⟨k1, k2⟩
    · obtain ⟨l, e⟩ := isLf_lf k1
      refine ⟨valV kvs l, ⟨_, (knk l), .inl ⟨⟨kvs, ob, h1, rfl⟩, l, leaf_of hy e, rfl⟩, (valV_key kvs l).symm⟩, look_K h2 h3 (lf_nk e)⟩
    · obtain ⟨e1, e2⟩ := all_tk_K k2 h2
      obtain ⟨k, ek, hky⟩ := kyT_of hC hy k1
      subst e1 e2
      cases h3
      exact ⟨none, ⟨[], k, .inr ⟨⟨[], .inr ⟨rfl, ob, h1⟩, rfl⟩, hky⟩, rfl⟩, rfl⟩
  · rw [hC.2.1, hC.2.2] at h1
    rcases hk with ⟨k1, k2⟩ | ⟨k1, k2⟩
    · exact (all_lf_T k2 hne h3).elim
    · obtain ⟨k, ek, hky⟩ := kyT_of hC hy k1
      exact ⟨_, ⟨_, k, .inr ⟨⟨kvs, .inl ⟨⟨ob, h1⟩, nks_of hC h2 h3⟩, rfl⟩, hky⟩, rfl⟩, look_T h2 h4 ek⟩
theorem isDic_of (hC : COk X c) (h : DicRep c A H a ks vs) : IsDic X H a ks.length := by
  rcases h with ⟨kvs, ob, h1, h2, h3⟩ | ⟨kvs, ob, h1, hne, h2, h3, h4⟩
  · rw [hC.2.1, hC.2.2] at h1
    have hl0 := congrArg List.length h2
    rw [List.length_map, List.length_map] at hl0
    exact .inl ⟨_, ⟨kvs, ob, h1, rfl⟩, by rw [List.length_map]; exact hl0.symm⟩
  · rw [hC.2.1, hC.2.2] at h1
    have hl0 := congrArg List.length h2
    rw [List.length_map, List.length_map] at hl0
    exact .inr ⟨_, ⟨kvs, .inl ⟨⟨ob, h1⟩, nks_of hC h2 h3⟩, rfl⟩, by rw [List.length_map]; exact hl0.symm⟩
end
end U
namespace U
set_option autoImplicit false
open PySem PySem.Spec PyProof.Rows L2
def dIx (x y : D) : Option (Bool × D) := match x with
  | .dic ks vs => if dKd ks y then (dLook ks vs y).map fun d => (false, d) else none
  | x => dIxS x y
def dLen : List D → Option (Bool × D)
  | [.dic ks _] => some (false, .int ks.length)
  | ds => dLenS ds
section
variable {X : Cx} {c : Cc} {A : Addr → Prop} {H : Hp}
theorem repT_key {ks : List D} {y : V} {d : D} (h : RepT c A H y d) (hk : dKd ks d = true) : Rep c A H y d := by
  rcases h with h | ⟨a, ds, xs, rfl, h, _⟩
  · exact h
  · cases h <;> (unfold dKd D.isLf D.isTk D.lf at hk; simp at hk)
theorem gs_ixC (hC : COk X c) : GS2 c dIx (fun x y H Q => rIx X.K x y H Q ∨ rIxC X x y H Q) := by
  intro A H x y d1 d2 fr d Q h1 h2 e k
  unfold dIx at e
  split at e
  · rename_i ks vs
    split at e
    case isFalse => cases e
    rename_i hk
    obtain ⟨a, rfl, hd⟩ := repT_dic h1
    obtain ⟨o, g, hl⟩ := dlk_of hC hd (repT_key h2 hk) hk
    cases q : dLook ks vs d2 with
    | none => rw [q] at e; cases e
    | some z =>
      rw [q] at e hl
      cases e
      obtain ⟨v, rfl, hv⟩ := hl
      exact .inr ⟨a, v, rfl, g, k v H (new_self hv)⟩
  · exact .inl (gs_ix hC.1 A H x y d1 d2 fr d Q h1 h2 e k)
theorem gs_lenC (hC : COk X c) : GSN c dLen (fun xs H Q => (∃ x n, xs = [x] ∧ LenV X.K x H n ∧ Q (.int n) H) ∨ ∃ a n, xs = [V.ref a] ∧ IsDic X H a n ∧ Q (.int n) H) := by
  intro A H xs ds fr d Q h1 e k
  unfold dLen at e
  split at e
  · cases e
    obtain ⟨v, rfl, h⟩ := repTs1 h1
    obtain ⟨a, rfl, hd⟩ := repT_dic h
    exact .inr ⟨a, _, rfl, isDic_of hC hd, k _ H (new_self (.int _))⟩
  · exact .inl (gs_len hC.1 A H xs ds fr d Q h1 e k)
end
section
variable {X : Cx} {c : Cc} {E : XK} {k : Nat} {a b : Expr} {p q : Pk} {pos : Pos}
theorem e_ix (hr : Room k X.A) (hC : COk X c) (ha : DP X c E a p) (hb : DP X c E b q) (hs : PlainIx b := by exact fun _ _ => rfl) : DE X c E (.Subscript a b pos) (op2 dIx p q) := de_op2 (gs_ixC hC) ha hb fun h h' => pe_ix (ix_seq.or (ix_dic (hu64 hr))) h h' hs
theorem b_len {e : Expr} {ps : List Pk} {p : Pos} (hC : COk X c) (hm : X.mg "len" = none) (ha : DPs X c E [e] ps) (hg : Gl X "len" := by rfl) (hs : starEach [e] X.env = (false, eval e X.env) :: starEach [] X.env := by rfl) (hpl : (backTo pos (starEach [] X.env)).any (·.1) = false := by rfl) : DE X c E (.Call (.Name "len" p) [e] [] pos) (opN dLen ps) :=
  de_opN (gs_lenC hC) ha fun h => pe_callB (call_len.or call_lenC) hg hm PySem.boot_len h (by decide) (by decide) hs hpl
end
section
variable {X : Cx} {c : Cc} {E : XK} {pos : Pos}
end
end U
namespace U
set_option autoImplicit false
open PySem PySem.Spec PyProof.Rows L2
abbrev DMG := List D → List D → List D → Option (Bool × D)
section
variable {X : Cx} {c : Cc} {E : XK} {o e : Expr} {es : List Expr} {p : Pk} {fs : List EF} {g : DMG} {r : V → List V → Hp → VK → Prop} {name : Str} {apos cpos : Pos} {id : String}
end
section
variable {X : Cx} {c : Cc} {E : XK} {o e f : Expr} {i : Nat} {fs : List EF} {apos cpos : Pos}
end
section
variable {X : Cx} {c : Cc} {pr : Bool} {E : XK} {o e ei : Expr} {f fi : EF} {pos pos' : Pos} {i : Nat}
end
end U
namespace U
set_option autoImplicit false
open PySem PySem.Spec PyProof.Rows L2
def DVw (P : Program) (w : World) (H : Hp) (a : Addr) (ob : Obj) (kv vv : List V) : Prop :=
  (∃ kvs : List (L2.Key × V), H a = some (DkO P w a kvs ob) ∧ kv = kvs.map (fun p => kV p.1) ∧ vv = kvs.map (·.2)) ∨
  ∃ kvs : List (NestedKey × Addr × V), H a = some (DtO P w a kvs ob) ∧ kv = kvs.map (fun p => V.ref p.2.1) ∧ vv = kvs.map (·.2.2)
def EsV (es : Array DictEntry) (kv vv : List V) : Prop := es.size = kv.length ∧ es.size = vv.length ∧ ∀ i (hi : i < es.size), ∃ k v, kv[i]? = some k ∧ vv[i]? = some v ∧ RelV k es[i].key ∧ RelV v es[i].val
theorem mix_rel {P : Program} {w : World} {k : L2.Key} {u : Value} (h : (mixKind P w).is k u = true) : RelV (kV k) u := by
  rcases keyIs_shape (show keyIs k u = true from h) with ⟨i, t, rfl, rfl⟩ | ⟨x, t, rfl, rfl⟩
  · exact ⟨t, rfl⟩
  · exact ⟨t, rfl⟩
theorem pairs_esv {P : Program} {w : World} : ∀ {es : List DictEntry} {vs : List (L2.Key × Value)} {kvs : List (L2.Key × V)}, Pairs (mixKind P w) es vs → KV kvs vs → ∀ (i : Nat) (hi : i < es.length), ∃ k v, (kvs.map fun p => kV p.1)[i]? = some k ∧ (kvs.map (·.2))[i]? = some v ∧ RelV k es[i].key ∧ RelV v es[i].val
  | [], _, _, _, _, i, hi => absurd hi (Nat.not_lt_zero _)
  | e :: es, _, _, .cons h1 h2 ht, .cons hr hrt, 0, _ => by
    refine ⟨_, _, rfl, rfl, ?_, ?_⟩
    · show RelV (kV _) e.key
      rw [hr.1]
      exact mix_rel h1
    · show RelV _ e.val
      rw [h2]
      exact hr.2
  | e :: es, _, _, .cons h1 h2 ht, .cons hr hrt, i + 1, hi => by
    obtain ⟨k, v, a1, a2, a3, a4⟩ := pairs_esv ht hrt i (by simpa using hi)
    exact ⟨k, v, by simpa using a1, by simpa using a2, a3, a4⟩
theorem ents_esv {P : Program} {w : World} : ∀ {xs : List (NestedKey × Addr × Value)} {kvs : List (NestedKey × Addr × V)}, KW kvs xs → ∀ (i : Nat) (hi : i < (xs.map (entryOfKey (nestedKind P w))).length), ∃ k v, (kvs.map fun p => V.ref p.2.1)[i]? = some k ∧ (kvs.map (·.2.2))[i]? = some v ∧ RelV k (xs.map (entryOfKey (nestedKind P w)))[i].key ∧ RelV v (xs.map (entryOfKey (nestedKind P w)))[i].val
  | [], _, _, i, hi => absurd hi (Nat.not_lt_zero _)
  | x :: xs, _, .cons hr hrt, 0, _ => ⟨_, _, rfl, rfl, by show RelV (.ref _) (.ref _); rw [hr.2.1]; rfl, hr.2.2⟩
  | x :: xs, _, .cons hr hrt, i + 1, hi => by
    obtain ⟨k, v, a1, a2, a3, a4⟩ := ents_esv (P := P) (w := w) hrt i (by simpa using hi)
    exact ⟨k, v, by simpa using a1, by simpa using a2, a3, a4⟩
section
variable {X : Cx} {pins : List (Addr × Obj)} {σ : St} {H : Hp} {s : Shared} {a : Addr} {ob : Obj} {kv vv : List V}
theorem dvw_at (I : Inv X pins σ H s) (h : DVw X.prog X.w H a ob kv vv) : ∃ es ep, s.heap.get? a = some ob ∧ ob.ExactDict ∧ ob.data = .dict es ep ∧ (a == sysModules) = false ∧ es.size ≤ sizeLine ∧ EsV es kv vv := by
  rcases h with ⟨kvs, h, rfl, rfl⟩ | ⟨kvs, h, rfl, rfl⟩
  · obtain ⟨h0, h1, h2, vs, r, o, es, ep, h4, h5, h6, h7, h8, h9⟩ := (I.hok a _ h).1
    rw [h0] at h4
    cases h4
    have hl := h8.length
    rw [Array.length_toList] at hl
    have hl2 := r.length
    refine ⟨es, ep, h0, h5, h6, h2, by omega, by rw [List.length_map]; omega, by rw [List.length_map]; omega, fun i hi => ?_⟩
    obtain ⟨k, v, a1, a2, a3, a4⟩ := pairs_esv h8 r i (by rw [Array.length_toList]; exact hi)
    exact ⟨k, v, a1, a2, by simpa using a3, by simpa using a4⟩
  · obtain ⟨h0, h1, h2, h3, xs, r, o, es, ep, h4, h5, h6, h7, h8⟩ := (I.hok a _ h).1
    rw [h0] at h4
    cases h4
    have hl := congrArg List.length h7
    rw [Array.length_toList, List.length_map] at hl
    have hl2 : kvs.length = xs.length := Paired.length r
    refine ⟨es, ep, h0, h5, h6, h2, by omega, by rw [List.length_map]; omega, by rw [List.length_map]; omega, fun i hi => ?_⟩
    obtain ⟨k, v, a1, a2, a3, a4⟩ := ents_esv (P := X.prog) (w := X.w) r i (by rw [List.length_map, ← hl]; exact hi)
    have e : es[i] = (xs.map (entryOfKey (nestedKind X.prog X.w)))[i]'(by rw [List.length_map, ← hl]; exact hi) := by
      have : es.toList[i]'(by rw [Array.length_toList]; exact hi) = (xs.map (entryOfKey (nestedKind X.prog X.w)))[i]'(by rw [List.length_map, ← hl]; exact hi) := by
        simp only [h7]
      rw [← this]
      simp
    rw [e]
    exact ⟨k, v, a1, a2, a3, a4⟩
theorem dvw_raw {es : Array DictEntry} {ep : Nat} (I : Inv X pins σ H s) (h : DVw X.prog X.w H a ob kv vv) (hd : ob.data = .dict es ep) : s.heap.DictRaw a es ep ∧ (a == sysModules) = false ∧ es.size ≤ sizeLine ∧ EsV es kv vv := by
  obtain ⟨es', ep', h1, h2, h3, h4, h5, h6⟩ := dvw_at I h
  rw [hd] at h3
  cases h3
  exact ⟨⟨ob, h1, h2, hd⟩, h4, h5, h6⟩
end
def ItK (P : Program) (w : World) (a : Addr) (ob : Obj) (n : Nat) : It :=
  ⟨fun i H => (∃ kv vv, DVw P w H a ob kv vv) ∧ i < n, fun i H v H' => H' = H ∧ ∀ kv vv, DVw P w H a ob kv vv → kv[i]? = some v, fun i H => (∃ kv vv, DVw P w H a ob kv vv) ∧ n ≤ i⟩
theorem turn_dkeys {P : Program} {w : World} {K : PySem.W.Frag} {tg : Expr} (a it : Addr) {ob : Obj} {es : Array DictEntry} {ep : Nat} (hd : ob.data = .dict es ep) : Turn P w K tg (ItK P w a ob es.size) [it] it (fun i h => h.IsKeyIter it a i es.size ep) where
  mem := by simp
  obj := fun i h st b hb => by
    have e : b = it := by simpa using hb
    subst e
    obtain ⟨o, e, c, d⟩ := st
    exact ⟨o, e, fun v z => by rw [d] at z; cases z⟩
  keep := fun i h h' st k => by
    obtain ⟨o, e, c, d⟩ := st
    exact ⟨o, k it (by simp) o e, c, d⟩
  item := by
    intro X hP hw hK hc i pins s σ H E I hf st hg
    subst hP hw hK
    obtain ⟨⟨kv, vv, hv⟩, hi⟩ := hg
    obtain ⟨hr, hs, hz, e1, e2, e3⟩ := dvw_raw I hv hd
    obtain ⟨f0, f1, f2, f3, f4, f5⟩ := hf it (by simp)
    obtain ⟨k, v, g1, g2, g3, g4⟩ := e3 i hi
    refine wpAny_pyNext_keys_item_raw st hr hi fun h' st' sb => ?_
    have I1 : Inv X pins σ H { s with heap := h' } := I.turned (t' := s.toks) (fun b o hb e => (sb.2 b hb).trans e) f0 f1 f3 f4 f5
    obtain ⟨o, e, c, d⟩ := id st'
    refine ⟨es[i].key, rfl, go_of (s := { s with heap := h' }) e c d (by decide) ⟨k, H, I1, g3, ⟨rfl, fun kv' vv' hv' => ?_⟩, st', fun b hb => (hf b hb).1⟩⟩
    obtain ⟨_, _, _, _, _, e3'⟩ := dvw_raw I hv' hd
    obtain ⟨k', v', g1', g2', g3', g4'⟩ := e3' i hi
    rw [g1', RelV.inj g3' g3]
  done := by
    intro X hP hw hK hc i pins s σ H E I hf st hg
    subst hP hw hK
    obtain ⟨⟨kv, vv, hv⟩, hi⟩ := hg
    obtain ⟨hr, hs, hz, e1, e2, e3⟩ := dvw_raw I hv hd
    obtain ⟨f0, f1, f2, f3, f4, f5⟩ := hf it (by simp)
    exact wpAny_pyNext_keys_end_raw (I.ok.hd hc) st hr hi fun h' eb => ⟨rfl, I.turned (t' := s.toks) (fun b o hb e => eb b o hb e) f0 f1 f3 f4 f5⟩
  self := fun A i s Q E st h => by
    obtain ⟨o, e, c, d⟩ := st
    exact wpAny_pyIter_keyiter ⟨o, e, c, d⟩ h
theorem walk_dkeys {P : Program} {w : World} {a : Addr} {ob : Obj} {kv vv : List V} {n : Nat} (hn : n = kv.length) : Walk (ItK P w a ob n) n (fun H => DVw P w H a ob kv vv) (YAt kv) :=
  ⟨fun i _ hi q => ⟨⟨kv, vv, q⟩, hi⟩, fun _ q => ⟨⟨kv, vv, q⟩, Nat.le_refl _⟩, fun _ _ _ _ _ q y => ⟨y.1, y.2 kv vv q⟩⟩
def iDk (X : Cx) (te : TE) : TI := fun σ H R => te σ H fun x H1 => ∃ a ob kv vv, x = .ref a ∧ DVw X.prog X.w H1 a ob kv vv ∧ R (ItK X.prog X.w a ob kv.length) H1
theorem pi_dkeys {X : Cx} {tg e : Expr} {te : TE} (he : PE X e te) : PI X tg e (iDk X te) := by
  refine ⟨fun pins s σ H R I h => ?_⟩
  refine thn (he.run pins s σ H _ I h) fun v s1 ⟨x, H1, I1, r1, q1⟩ => ?_
  obtain ⟨a, ob, kv, vv, e, hv, q⟩ := q1
  subst e
  cases (show v = Value.ref a from r1)
  obtain ⟨es, ep, h1, h2, h3, h4, h5, h6⟩ := dvw_at I1 hv
  refine wpAny_pyIter_dict_raw h4 ⟨ob, h1, h2, h3⟩ ?_
  rw [← h6.1] at q
  refine ⟨s1.heap.objs.size, [s1.heap.objs.size], _, _, H1, rfl, I1.kept (t' := s1.toks) fun b o e => Heap.get?_push_of_some _ e, turn_dkeys a _ h3, ⟨_, Heap.get?_push_size _ rfl, rfl, rfl⟩, fun b hb => ?_, q⟩
  have e : b = s1.heap.objs.size := by simpa using hb
  subst e
  exact I1.fpOk (Nat.le_refl _) (I1.hok.fresh (Nat.le_refl _))
end U
namespace U
set_option autoImplicit false
open PySem PySem.Spec PyProof.Rows L2
theorem lfs_rep {c : Cc} {A : Addr → Prop} {H : Hp} : ∀ {kvs : List (L2.Key × V)} {ks : List D}, ks.map D.lf = kvs.map (fun p => some p.1) → RepL c A H (kvs.map fun p => kV p.1) ks
  | [], ks, e => by
    cases ks with
    | nil => exact .nil
    | cons _ _ => cases e
  | p :: kvs, ks, e => by
    cases ks with
    | nil => cases e
    | cons k ks =>
      rw [List.map_cons, List.map_cons] at e
      injection e with e1 e2
      rw [List.map_cons]
      refine .cons ?_ (lfs_rep e2)
      cases k <;> first | (cases e1; done) | skip
      · have : p.1 = .inl _ := (Option.some.inj e1).symm
        rw [this]; exact .int _
      · have : p.1 = .inr _ := (Option.some.inj e1).symm
        rw [this]; exact .str _
section
variable {X : Cx} {c : Cc} {A : Addr → Prop} {H : Hp} {a : Addr} {ks vs : List D}
theorem dvw_of (hC : COk X c) (h : DicRep c A H a ks vs) : ∃ ob kv vv, DVw X.prog X.w H a ob kv vv ∧ RepL c A H kv ks ∧ RepL c A H vv vs := by
  rcases h with ⟨kvs, ob, h1, h2, h3⟩ | ⟨kvs, ob, h1, hne, h2, h3, h4⟩
  · rw [hC.2.1, hC.2.2] at h1
    exact ⟨ob, _, _, .inl ⟨kvs, h1, rfl, rfl⟩, lfs_rep h2, h3⟩
  · rw [hC.2.1, hC.2.2] at h1
    exact ⟨ob, _, _, .inr ⟨kvs, h1, rfl, rfl⟩, h3, h4⟩
end
def seqI : D → Option (List D)
  | .dic ks _ => some ks
  | d => seqOf d
def fIt (f : EF) : IF := fun ρ => (f ρ).bind fun r => match seqI r.2.1 with
  | some ds => .ok (ds, r.2.2)
  | none => .bad
def D.isDic : D → Bool
  | .dic _ _ => true
  | _ => false
section
variable {X : Cx} {c : Cc} {E : XK} {tg e : Expr} {f : EF}
theorem hull_dvw {P : Program} {w : World} {σ : St} {H H2 : Hp} {ρ : En} {Z : Addr → Prop} {a : Addr} {ob : Obj} {kv vv : List V} (s : ∀ b o, hull σ ρ H b = some o → H2 b = some o) (hn : ¬ Av σ ρ Z a) (h : DVw P w H a ob kv vv) : DVw P w H2 a ob kv vv := by
  have key : ∀ u, H a = some u → H2 a = some u := fun u e => s _ _ (by rw [hull_not fun z => hn (.inr z)]; exact e)
  rcases h with ⟨kvs, h1, h2⟩ | ⟨kvs, h1, h2⟩
  · exact .inl ⟨kvs, key _ h1, h2⟩
  · exact .inr ⟨kvs, key _ h1, h2⟩
theorem rep_dicN {A : Addr → Prop} {H : Hp} {v : V} {ks vs : List D} (h : Rep c A H v (.dic ks vs)) : ∃ a, v = .ref a ∧ ¬ A a ∧ DicRep c A H a ks vs := by
  cases h with
  | dicK h1 h2 h3 h4 => exact ⟨_, rfl, h2, .inl ⟨_, _, h1, h3, h4⟩⟩
  | dicT h1 h2 h3 h4 h5 h6 => exact ⟨_, rfl, h2, .inr ⟨_, _, h1, h3, h4, h5, h6⟩⟩
theorem di_val (hC : COk X c) (h : DE X c E e f) : DI X c E tg e (fIt f) := by
  refine ⟨pi_imp (pi_or (di_valS hC.1 h).pi (pi_dkeys h.pe)) fun σ H Rr ⟨ρ, Z, B, r0, q⟩ => ?_⟩
  unfold fIt at q
  by_cases ht : (match f ρ with | .ok r => r.2.1.isDic | _ => false) = true
  · refine .inr ⟨ρ, Z, B, r0, ?_⟩
    cases hf : f ρ with
    | ok a =>
      rw [hf] at q ht
      obtain ⟨fr, d, ρ1⟩ := a
      intro v H1 r1 v1
      dsimp only [O.bind] at q ht
      cases d with
      | dic ks vs =>
        obtain ⟨a, rfl, hn, hd⟩ := rep_dicN v1.rep
        obtain ⟨ob, kv, vv, h1, h2, h3⟩ := dvw_of hC hd
        refine ⟨a, ob, kv, vv, rfl, h1, q _ H1 r1 (iok_at (walk_dkeys rfl) (fun H2 s => hull_dvw s hn h1) h2)⟩
      | _ => cases ht
    | ex k d ρ' => rw [hf] at q; exact q
    | bad => rw [hf] at q; exact q
  · refine .inl ⟨ρ, Z, B, r0, ?_⟩
    unfold fItS
    cases hf : f ρ with
    | ok a =>
      rw [hf] at q ht
      obtain ⟨fr, d, ρ1⟩ := a
      dsimp only [O.bind] at q ht ⊢
      cases d with
      | dic ks vs => exact absurd rfl ht
      | _ => exact q
    | ex k d ρ' => rw [hf] at q; exact q
    | bad => rw [hf] at q; exact q
end
section
variable {X : Cx}
end
section
variable {X : Cx} {c : Cc} {E : XK} {e o : Expr} {ps : List Pk} {p pos apos cpos : Pos} {pk : Pk}
end
end U
namespace U
set_option autoImplicit false
open PySem L2
section
variable {f g : EF} {ρ : En} {p : Pk} {fs : List EF} {i : Nat}
@[simp] theorem r_it : fIt f ρ = (f ρ).bind fun r => match seqI r.2.1 with
  | some ds => .ok (ds, r.2.2)
  | none => .bad := rfl
@[simp] theorem r_seqIT (ds : List D) : seqI (.tup ds) = some ds := rfl
@[simp] theorem r_seqIL (ds : List D) : seqI (.lst ds) = some ds := rfl
@[simp] theorem r_seqIS (ns : List Int) : seqI (.scr ns) = some (ns.map .int) := rfl
@[simp] theorem r_seqID (ks vs : List D) : seqI (.dic ks vs) = some ks := rfl
end
end U
namespace U
set_option autoImplicit false
open PySem PySem.Spec PyProof.Rows L2
section
variable {X : Cx}
end
section
variable {X : Cx} {c : Cc} {E : XK} {e : Expr} {ps : List Pk} {p pos : Pos}
end
end U
namespace U
set_option autoImplicit false
open PySem PySem.Spec PyProof.Rows L2
section
variable {X : Cx}
end
section
variable {X : Cx} {c : Cc} {E : XK} {e : Expr} {ps : List Pk} {p pos p1 pos1 : Pos}
end
end U
namespace U
set_option autoImplicit false
section
open PySem PySem.Calls PyProof.Rows PySem.W
def KB (fs : List Addr) (h h' : Heap) : Prop := ∀ b o, h.get? b = some o → (b ∉ fs → h'.get? b = some o) ∧ ∃ sl, h'.get? b = some { o with slots := sl }
theorem KB.of {fs : List Addr} {h h' : Heap} (k : ∀ b o, h.get? b = some o → h'.get? b = some o) : KB fs h h' := fun b o e => ⟨fun _ => k b o e, o.slots, k b o e⟩
theorem KB.trans {fs : List Addr} {h h' h'' : Heap} (k : KB fs h h') (k' : KB fs h' h'') : KB fs h h'' := fun b o e => by
  obtain ⟨k1, sl, k2⟩ := k b o e
  obtain ⟨_, sl', k3⟩ := k' b _ k2
  exact ⟨fun hb => (k' b o (k1 hb)).1 hb, sl', k3⟩
section
variable {prog : Program} {w : World} {A : Around} {E : Value → Shared → Prop} {s : Shared} {a kS : Addr} {b : Bool} {vs : List Value} {keys : Array Value} {e e1 : Nat} {P : PySem.Fin → Shared → Prop} {kz : List PyData}
end
section
variable {prog : Program} {w : World} {A : Around} {E : Value → Shared → Prop} {s : Shared} {β : Type} {vs : List Value} {bs : List β} {R : Value → β → Prop}
end
end
end U
namespace U
set_option autoImplicit false
open PySem PySem.Spec PyProof.Rows L2
section
variable {c : Cc} {A A' : Addr → Prop} {H H' : Hp}
end
section
variable {P : Program} {w : World} {H : Hp} {h : Heap}
end
section
variable {X : Cx}
end
section
variable {X : Cx} {c : Cc} {E : XK} {e : Expr} {ps : List Pk} {p p2 pos kpos : Pos} {x : Str} {st : Stmt} {qs : List Str} {k j : Nat} {g : FD}
end
end U
namespace U
set_option autoImplicit false
open PySem PySem.Spec PyProof.Rows L2
section
variable {X : Cx} {c : Cc} {E : XK} {e : Expr} {ps : List Pk} {p pos : Pos}
end
section
variable {c : Cc} {E : XK} {g : FD} {f : EF} {ps : List Pk}
end
section
variable {X : Cx} {c : Cc} {E : XK} {e : Expr} {es : List Expr} {f : EF} {ps : List Pk} {p pos : Pos} {x : Str} {st : Stmt} {qs : List Str} {k j : Nat} {g : FD}
end
end U
namespace U
set_option autoImplicit false
open PySem PySem.Spec PyProof.Rows L2
section
variable {X : Cx}
variable {c : Cc} {pr : Bool} {E : XK} {o e ei : Expr} {f fi : EF} {pos pos' : Pos} {i : Nat}
end
end U
namespace U
set_option autoImplicit false
open PySem L2
section
variable (nn : Nat) (io : Bool) (s : SF) (a b c d e f : D)
@[simp] theorem run0 : runF 0 nn io s [] = finF io (s (List.replicate (nn - 0) none)) := rfl
@[simp] theorem run1 : runF 1 nn io s [a] = finF io (s (some (io, a) :: List.replicate (nn - 1) none)) := rfl
@[simp] theorem run2 : runF 2 nn io s [a, b] = finF io (s (some (io, a) :: some (false, b) :: List.replicate (nn - 2) none)) := rfl
@[simp] theorem run3 : runF 3 nn io s [a, b, c] = finF io (s (some (io, a) :: some (false, b) :: some (false, c) :: List.replicate (nn - 3) none)) := rfl
@[simp] theorem run4 : runF 4 nn io s [a, b, c, d] = finF io (s (some (io, a) :: some (false, b) :: some (false, c) :: some (false, d) :: List.replicate (nn - 4) none)) := rfl
@[simp] theorem run5 : runF 5 nn io s [a, b, c, d, e] = finF io (s (some (io, a) :: some (false, b) :: some (false, c) :: some (false, d) :: some (false, e) :: List.replicate (nn - 5) none)) := rfl
@[simp] theorem run6 : runF 6 nn io s [a, b, c, d, e, f] = finF io (s (some (io, a) :: some (false, b) :: some (false, c) :: some (false, d) :: some (false, e) :: some (false, f) :: List.replicate (nn - 6) none)) := rfl
end
section
variable (i j : Int) (a b : Bool)
@[simp] theorem v_add : dAdd (.int i) (.int j) = some (false, .int (i + j)) := rfl
@[simp] theorem v_sub : dSub (.int i) (.int j) = some (false, .int (i - j)) := rfl
theorem v_mul (h : bitsOf i + bitsOf j ≤ 1000000) : dMul (.int i) (.int j) = some (false, .int (i * j)) := by unfold dMul; exact if_pos h
theorem v_fdiv (h : j ≠ 0) (h2 : j.natAbs.log2 < 9000) : dFdiv (.int i) (.int j) = some (false, .int (i.fdiv j)) := by
  unfold dFdiv dI2
  dsimp only
  rw [if_pos (by rw [decide_eq_true h, decide_eq_true h2]; rfl)]
theorem v_mod (h : j ≠ 0) : dMod (.int i) (.int j) = some (false, .int (i.fmod j)) := by
  unfold dMod dI2
  dsimp only
  rw [if_pos (by rw [decide_eq_true h])]
@[simp] theorem v_lt : dLt (.int i) (.int j) = some (decide (i < j)) := rfl
@[simp] theorem v_le : dLe (.int i) (.int j) = some (decide (i ≤ j)) := rfl
@[simp] theorem v_gt : dGt (.int i) (.int j) = some (decide (j < i)) := rfl
@[simp] theorem v_ge : dGe (.int i) (.int j) = some (decide (j ≤ i)) := rfl
@[simp] theorem v_abs : dAbs [.int i] = some (false, .int (if i < 0 then -i else i)) := rfl
@[simp] theorem v_int : dInt [.int i] = some (false, .int i) := rfl
@[simp] theorem v_max : dMax2 [.int i, .int j] = some (false, .int (if j > i then j else i)) := rfl
@[simp] theorem v_min : dMin2 [.int i, .int j] = some (false, .int (if j < i then j else i)) := rfl
@[simp] theorem v_lenT (ds : List D) : dLen [.tup ds] = some (false, .int ds.length) := rfl
@[simp] theorem v_lenL (ds : List D) : dLen [.lst ds] = some (false, .int ds.length) := rfl
@[simp] theorem v_lenS (ns : List Int) : dLen [.scr ns] = some (false, .int ns.length) := rfl
@[simp] theorem v_eq : dEq (.int i) (.int j) = some (i == j) := by
  unfold dEq
  rw [if_pos (by rfl)]
  rfl
@[simp] theorem v_ne : dNe (.int i) (.int j) = some (!(i == j)) := by
  unfold dNe
  rw [if_pos (by rfl)]
  rfl
@[simp] theorem immI : (D.int i).imm = true := rfl
@[simp] theorem immB : (D.bl a).imm = true := rfl
@[simp] theorem immN : D.non.imm = true := rfl
@[simp] theorem immT (ds : List D) : (D.tup ds).imm = D.immL ds := rfl
@[simp] theorem immL0 : D.immL [] = true := rfl
@[simp] theorem immL1 (d : D) (ds : List D) : D.immL (d :: ds) = (d.imm && D.immL ds) := rfl
@[simp] theorem calmL (ds : List D) : (D.lst ds).calm = D.immL ds := rfl
end
theorem bits_le {i : Int} {n : Nat} (h : i.natAbs < 2 ^ n) (h0 : 0 < n) : bitsOf i ≤ n := by
  unfold bitsOf
  by_cases e : i.natAbs = 0
  · rw [e]
    show Nat.log2 0 + 1 ≤ n
    rw [Nat.log2_zero]
    omega
  · have := (Nat.log2_lt e).mpr h
    omega
theorem v_mulS {i j : Int} (h : i.natAbs < 2 ^ 200) (h2 : j.natAbs < 2 ^ 200) : dMul (.int i) (.int j) = some (false, .int (i * j)) :=
  v_mul i j (by have := bits_le h (by decide); have := bits_le h2 (by decide); omega)
theorem log_ok {j : Int} (h : j.natAbs < 2 ^ 200) : j.natAbs.log2 < 9000 := by
  by_cases e : j.natAbs = 0
  · rw [e]; decide
  · have := (Nat.log2_lt e).mpr h
    omega
theorem small_lt {i : Int} (h0 : 0 ≤ i) (h : i < 2 ^ 62) : i.natAbs < 2 ^ 200 := by
  have h1 : i.natAbs < 2 ^ 62 := by omega
  exact Nat.lt_of_lt_of_le h1 (Nat.pow_le_pow_right (by decide) (by decide))
theorem v_mulP {i j : Int} (h0 : 0 ≤ i) (h : i < 2 ^ 62) (h0' : 0 ≤ j) (h' : j < 2 ^ 62) : dMul (.int i) (.int j) = some (false, .int (i * j)) := v_mulS (small_lt h0 h) (small_lt h0' h')
theorem v_fdivP {i j : Int} (h0 : 0 < j) (h : j < 2 ^ 62) : dFdiv (.int i) (.int j) = some (false, .int (i.fdiv j)) := v_fdiv i j (by omega) (log_ok (small_lt (by omega) h))
theorem v_modP {i j : Int} (h0 : 0 < j) : dMod (.int i) (.int j) = some (false, .int (i.fmod j)) := v_mod i j (by omega)
theorem fmod_rg (i : Int) {j : Int} (h : 0 < j) : 0 ≤ i.fmod j ∧ i.fmod j < j := ⟨Int.fmod_nonneg_of_pos i h, Int.fmod_lt_of_pos i h⟩
def lawTake : FD := runF 2 4 true
    (sSeq (sIf (tOp2 dGt (.val (op2 dIx (.var 0) (.val (fC (.int 0))))) (.val (fC (.int 0))))
    (sSeq (sSet 3 (op2 dMod (.val (opN dInt [(.val (op2 dIx (.var 0) (.val (fC (.int 0)))))])) (.var 1)))
    (sSeq (sIx 0 (fC (.int 0)) (op2 dFdiv (.val (op2 dIx (.var 0) (.val (fC (.int 0))))) (.var 1)))
    (sRet (fMv 3))))
    sNil)
    (sSeq (sSet 2 (op2 dMod (.val (opN dInt [(.val (op2 dAdd (.val (op2 dMul (.val (op2 dIx (.var 0) (.val (fC (.int 1))))) (.val (fC (.int 39373))))) (.val (fC (.int 211)))))])) (.val (fC (.int 2147483647)))))
    (sSeq (sIx 0 (fC (.int 1)) (op2 dAdd (.val (op2 dMod (.val (opN dInt [(.val (op2 dAdd (.val (op2 dMul (.var 2) (.val (fC (.int 40692))))) (.val (fC (.int 97)))))])) (.val (fC (.int 2147483563))))) (.val (fC (.int 1)))))
    (sRet (op2 dMod (.val (opN dInt [(.val (op2 dFdiv (.val (op2 dAdd (.val (op2 dMul (.var 2) (.val (fC (.int 2147483629))))) (.val (op2 dIx (.var 0) (.val (fC (.int 1))))))) (.val (fC (.int 8263)))))])) (.var 1))))))
def Bx (d : D) : Prop := ∃ g h : Int, d = .lst [.int g, .int h] ∧ 0 ≤ h ∧ h < 2 ^ 32
@[simp] theorem v_ixT0 (d : D) (ds : List D) : dIx (.tup (d :: ds)) (.int 0) = some (false, d) := by
  simp [dIx, dIxS, atI, ixN]
@[simp] theorem v_ixL0 (d : D) (ds : List D) : dIx (.lst (d :: ds)) (.int 0) = some (false, d) := by
  simp [dIx, dIxS, atI, ixN]
@[simp] theorem v_ixT1 (d e : D) (ds : List D) : dIx (.tup (d :: e :: ds)) (.int 1) = some (false, e) := by
  simp [dIx, dIxS, atI, ixN]
  rw [if_pos (by omega)]
  rfl
@[simp] theorem v_ixL1 (d e : D) (ds : List D) : dIx (.lst (d :: e :: ds)) (.int 1) = some (false, e) := by
  simp [dIx, dIxS, atI, ixN]
  rw [if_pos (by omega)]
  rfl
theorem take_ok {b : D} {many : Int} (hb : Bx b) (h0 : 0 < many) (h1 : many < 2 ^ 62) : ∃ (v : Int) (es : List D), lawTake [b, .int many] = .ok (false, .int v, [.lst es]) ∧ 0 ≤ v ∧ v < many ∧ Bx (.lst es) ∧ D.immL es = true := by
  obtain ⟨g, h, rfl, hh0, hh1⟩ := hb
  unfold lawTake
  rw [run2]
  by_cases hg : 0 < g
  · simp [List.replicate, hg, v_modP h0, v_fdivP h0 h1, ixN, finF, outs]
    exact ⟨_, _, ⟨rfl, rfl⟩, (fmod_rg g h0).1, (fmod_rg g h0).2, ⟨_, _, rfl, hh0, hh1⟩, rfl⟩
  · have hm1 := v_mulP hh0 (by omega : h < 2 ^ 62) (by decide : (0:Int) ≤ 39373) (by decide)
    have r1 := fmod_rg (h * 39373 + 211) (by decide : (0:Int) < 2147483647)
    generalize hr : (h * 39373 + 211).fmod 2147483647 = raw at r1
    have hm2 := v_mulP r1.1 (by omega) (by decide : (0:Int) ≤ 40692) (by decide)
    have hm3 := v_mulP r1.1 (by omega) (by decide : (0:Int) ≤ 2147483629) (by decide)
    have r2 := fmod_rg (raw * 40692 + 97) (by decide : (0:Int) < 2147483563)
    simp [List.replicate, hg, v_modP h0, v_modP (by decide : (0:Int) < 2147483647), v_modP (by decide : (0:Int) < 2147483563), v_fdivP (by decide : (0:Int) < 8263) (by decide), ixN, finF, outs, hm1, hr, hm2, hm3]
    exact ⟨_, _, ⟨rfl, rfl⟩, (fmod_rg _ h0).1, (fmod_rg _ h0).2, ⟨_, _, rfl, by omega, by omega⟩, rfl⟩
end U
namespace U
set_option autoImplicit false
open PySem L2
def lawBox : FD := runF 2 4 false
    (sSeq (sSet 2 (op2 dAdd (.val (op2 dMul (.val (fC (.int 28019))) (.var 1))) (.val (fC (.int 7703)))))
    (sSeq (sIf (tOp2 dLt (.var 1) (.val (opN dLen [(.var 0)])))
    (sSet 2 (opN dAbs [(.val (opN dInt [(.val (op2 dIx (.var 0) (.var 1)))]))]))
    (sIf (tOp2 dGt (.val (opN dLen [(.var 0)])) (.val (fC (.int 0))))
    (sSet 2 (op2 dAdd (.var 2) (.val (op2 dMul (.val (op2 dMod (.val (opN dInt [(.val (opN dAbs [(.val (opN dInt [(.val (op2 dIx (.var 0) (.val (op2 dMod (.val (opN dInt [(.var 1)])) (.val (opN dLen [(.var 0)]))))))]))]))])) (.val (fC (.int 2147483563))))) (.val (fC (.int 97813)))))))
    sNil))
    (sSeq (sSet 3 (fIf (tOp2 dGe (.var 2) (.val (op2 dPow (.val (fC (.int 10))) (.val (fC (.int 18)))))) (fVar 2) (fC (.int 0))))
    (sRet (fLst [(fVar 3), (op2 dAdd (.val (op2 dMod (.val (opN dInt [(.val (op2 dAdd (.val (op2 dMul (.val (op2 dMod (.val (opN dInt [(.var 2)])) (.val (fC (.int 2147483563))))) (.val (fC (.int 54250003))))) (.val (op2 dMul (.val (fC (.int 7703))) (.var 1)))))])) (.val (fC (.int 2147483563))))) (.val (fC (.int 1))))])))))
theorem v_ixS {ns : List Int} {k : Int} (h0 : 0 ≤ k) (h : k < ns.length) : ∃ z, dIx (.scr ns) (.int k) = some (false, .int z) := by
  have hk : k.toNat < ns.length := by omega
  refine ⟨ns[k.toNat], ?_⟩
  simp [dIx, dIxS, atI, ixN, h0, h]
@[simp] theorem v_pow18 : dPow (.int 10) (.int 18) = some (false, .int 1000000000000000000) := by rfl
theorem box_tail (x : D) (cell k : Int) (hk0 : 0 ≤ k) (hk : k < 1000) : ∃ es, finF false ((sSeq (sSet 3 (fIf (tOp2 dGe (.var 2) (.val (op2 dPow (.val (fC (.int 10))) (.val (fC (.int 18)))))) (fVar 2) (fC (.int 0))))
    (sRet (fLst [(fVar 3), (op2 dAdd (.val (op2 dMod (.val (opN dInt [(.val (op2 dAdd (.val (op2 dMul (.val (op2 dMod (.val (opN dInt [(.var 2)])) (.val (fC (.int 2147483563))))) (.val (fC (.int 54250003))))) (.val (op2 dMul (.val (fC (.int 7703))) (.var 1)))))])) (.val (fC (.int 2147483563))))) (.val (fC (.int 1))))]))) [some (false, x), some (false, .int k), some (false, .int cell), none]) = .ok (true, .lst es, []) ∧ Bx (.lst es) ∧ D.immL es = true := by
  have r1 := fmod_rg cell (by decide : (0:Int) < 2147483563)
  have hm := v_modP (i := cell) (by decide : (0:Int) < 2147483563)
  generalize cell.fmod 2147483563 = c1 at r1 hm
  have hm1 := v_mulP r1.1 (by omega) (by decide : (0:Int) ≤ 54250003) (by decide)
  have hm2 := v_mulP (by decide : (0:Int) ≤ 7703) (by decide) hk0 (by omega : k < 2 ^ 62)
  have r2 := fmod_rg (c1 * 54250003 + 7703 * k) (by decide : (0:Int) < 2147483563)
  by_cases hc : 1000000000000000000 ≤ cell
  · simp [hc, hm, hm1, hm2, v_modP (by decide : (0:Int) < 2147483563), finF, outs]
    exact ⟨_, _, rfl, by omega, by omega⟩
  · simp [hc, hm, hm1, hm2, v_modP (by decide : (0:Int) < 2147483563), finF, outs]
    exact ⟨_, _, rfl, by omega, by omega⟩
theorem box_ok (ns : List Int) (k : Int) (hk0 : 0 ≤ k) (hk : k < 1000) : ∃ es, lawBox [.scr ns, .int k] = .ok (true, .lst es, []) ∧ Bx (.lst es) ∧ D.immL es = true := by
  unfold lawBox
  rw [run2]
  have hm0 := v_mulP (by decide : (0:Int) ≤ 28019) (by decide) hk0 (by omega : k < 2 ^ 62)
  by_cases h1 : k < ns.length
  · obtain ⟨z, hz⟩ := v_ixS hk0 h1
    obtain ⟨es, e, h⟩ := box_tail (.scr ns) (if z < 0 then -z else z) k hk0 hk
    refine ⟨es, ?_, h⟩
    rw [← e]
    simp [List.replicate, h1, hz, hm0]
  · by_cases h2 : 0 < ns.length
    · have hl : (0 : Int) < ns.length := by omega
      have r3 := fmod_rg k hl
      obtain ⟨z, hz⟩ := v_ixS r3.1 r3.2
      have r4 := fmod_rg (if z < 0 then -z else z) (by decide : (0:Int) < 2147483563)
      have hm4 := v_modP (i := (if z < 0 then -z else z)) (by decide : (0:Int) < 2147483563)
      obtain ⟨es, e, h⟩ := box_tail (.scr ns) (28019 * k + 7703 + (if z < 0 then -z else z).fmod 2147483563 * 97813) k hk0 hk
      refine ⟨es, ?_, h⟩
      rw [← e]
      have hm5 := v_mulP r4.1 (by omega) (by decide : (0:Int) ≤ 97813) (by decide)
      have h2' : ¬ ns = [] := fun z => by rw [z] at h2; exact absurd h2 (by decide)
      simp [List.replicate, hm0, h1, h2, h2', hz, v_modP hl, hm4, hm5]
    · obtain ⟨es, e, h⟩ := box_tail (.scr ns) (28019 * k + 7703) k hk0 hk
      refine ⟨es, ?_, h⟩
      rw [← e]
      have h2' : ns = [] := List.eq_nil_of_length_eq_zero (by omega)
      subst h2'
      simp [List.replicate, hm0, show ¬ k < 0 by omega]
def lawPick : FD := runF 2 2 true (sRet (op2 dIx (.var 1) (.val (fCallIO lawTake 0 [(.val (opN dLen [(.var 1)]))]))))
theorem v_ixL {ds : List D} {k : Int} (h0 : 0 ≤ k) (h : k < ds.length) : ∃ z, z ∈ ds ∧ dIx (.lst ds) (.int k) = some (false, z) := by
  have hk : k.toNat < ds.length := by omega
  refine ⟨ds[k.toNat], List.getElem_mem hk, ?_⟩
  simp [dIx, dIxS, atI, ixN, h0, h]
theorem pickL_ok {b : D} {xs : List D} (hb : Bx b) (h0 : xs ≠ []) (h1 : xs.length < 2 ^ 62) : ∃ (v : D) (es : List D), lawPick [b, .lst xs] = .ok (false, v, [.lst es]) ∧ v ∈ xs ∧ Bx (.lst es) ∧ D.immL es = true := by
  have hl : 0 < xs.length := List.length_pos_iff.mpr h0
  obtain ⟨v, es, e, v0, v1, hb', hi⟩ := take_ok hb (many := xs.length) (by omega) (by omega)
  obtain ⟨z, hz, ez⟩ := v_ixL v0 v1
  refine ⟨z, es, ?_, hz, hb', hi⟩
  obtain ⟨g, h, rfl, _⟩ := hb
  unfold lawPick
  rw [run2]
  simp [List.replicate, e, hi, ez, finF, outs]
def bSame (dn : FD) : SF :=
    (sSeq (sIf (tOf (.val (op1 (dIsi "tuple") (.var 1))))
    (sSeq (sIf (tOr' (tNo (tOf (.val (op1 (dIsi "tuple") (.var 0))))) (tOp2 dNe (.val (opN dLen [(.var 0)])) (.val (opN dLen [(.var 1)]))))
    (sRet (fC (.bl false)))
    sNil)
    (sSeq (sFor (fZip (fVar 0) (fVar 1)) (gT [(gN 2), (gN 3)])
    (sIf (tNo (tOf (.val (fCall dn [(.var 2), (.var 3)]))))
    (sRet (fC (.bl false)))
    sNil))
    (sRet (fC (.bl true)))))
    sNil)
    (sSeq (sIf (tOp2 dIsN (.var 1) (.val (fC .non)))
    (sRet (op2 (blO dIsN) (.var 0) (.val (fC .non))))
    sNil)
    (sSeq (sIf (tOr' (tOp2 dIsB (.var 1) (.val (fC (.bl true)))) (tOp2 dIsB (.var 1) (.val (fC (.bl false)))))
    (sRet (fAnd (.val (op1 (dIsi "bool") (.var 0))) (op2 (blO dEq) (.var 0) (.var 1))))
    sNil)
    (sSeq (sIf (tOf (.val (op1 (dIsi "int") (.var 1))))
    (sRet (fAnd (.val (op1 (dIsi "int") (.var 0))) (fAnd (.val (fNot (.val (op1 (dIsi "bool") (.var 0))))) (op2 (blO dEq) (.var 0) (.var 1)))))
    sNil)
    (sRet (fAnd (.val (op1 (dIsi "str") (.var 0))) (fAnd (.val (op1 (dIsi "str") (.var 1))) (op2 (blO dEq) (.var 0) (.var 1)))))))))
def lawSame : Nat → FD
  | 0 => fun _ => .bad
  | n + 1 => runF 2 4 false (bSame (lawSame n))
def D.pl : Nat → D → Bool
  | _, .non => true
  | _, .bl _ => true
  | _, .int _ => true
  | _, .str x => PyData.strOk x
  | n + 1, .tup ds => ds.all (D.pl n)
  | _, _ => false
@[simp] theorem i1 : isTy "tuple" "tuple" = true := by decide
@[simp] theorem i2 : isTy "tuple" "int" = false := by decide
@[simp] theorem i3 : isTy "tuple" "bool" = false := by decide
@[simp] theorem i4 : isTy "tuple" "str" = false := by decide
@[simp] theorem i5 : isTy "tuple" "NoneType" = false := by decide
@[simp] theorem i6 : isTy "bool" "bool" = true := by decide
@[simp] theorem i7 : isTy "int" "int" = true := by decide
@[simp] theorem i8 : isTy "int" "str" = false := by decide
@[simp] theorem i9 : isTy "str" "str" = true := by decide
@[simp] theorem i10 : isTy "bool" "int" = false := by decide
@[simp] theorem i11 : isTy "int" "bool" = true := by decide
@[simp] theorem isi1 (T : String) (ds : List D) : dIsi T (.tup ds) = some (false, .bl (isTy T "tuple")) := rfl
@[simp] theorem isi2 (T : String) (i : Int) : dIsi T (.int i) = some (false, .bl (isTy T "int")) := rfl
@[simp] theorem isi3 (T : String) (b : Bool) : dIsi T (.bl b) = some (false, .bl (isTy T "bool")) := rfl
@[simp] theorem isi4 (T : String) (x : Str) : dIsi T (.str x) = some (false, .bl (isTy T "str")) := rfl
@[simp] theorem isi5 (T : String) : dIsi T .non = some (false, .bl (isTy T "NoneType")) := rfl
@[simp] theorem isi6 (T : String) (ds : List D) : dIsi T (.lst ds) = some (false, .bl (isTy T "list")) := rfl
theorem eq_bl (b : Bool) : dEq (.bl b) (.bl b) = some true := by cases b <;> rfl
theorem zp_self : ∀ ds : List D, zpD ds ds = ds.map fun d => .tup [d, d]
  | [] => rfl
  | d :: ds => by rw [zpD, zp_self ds, List.map_cons]
theorem same_ok : ∀ (n : Nat) (d : D), D.pl n d = true → lawSame (n + 1) [d, d] = .ok (false, .bl true, [])
  | n, .non, _ => by
    unfold lawSame bSame
    rw [run2]
    simp [List.replicate, finF, outs, dIsN, D.isNon]
  | n, .bl b, _ => by
    unfold lawSame bSame
    rw [run2]
    cases b <;> simp [List.replicate, finF, outs, dIsN, D.isNon, dIsB, D.isB, eq_bl]
  | n, .int i, _ => by
    unfold lawSame bSame
    rw [run2]
    simp [List.replicate, finF, outs, dIsN, D.isNon, dIsB, D.isB]
  | n, .str x, h => by
    have hg : D.good (.str x) = true := by
      cases n <;> exact h
    have he : dEq (.str x) (.str x) = some true := by
      unfold dEq
      rw [hg]
      show some (eqD _ _) = _
      unfold eqD
      simp
    unfold lawSame bSame
    rw [run2]
    simp [List.replicate, finF, outs, dIsN, D.isNon, dIsB, D.isB, he]
  | n + 1, .tup ds, h => by
    have h : ds.all (D.pl n) = true := h
    have loop : (forL (gT [(gN 2), (gN 3)]) (sIf (tNo (tOf (.val (fCall (lawSame (n + 1)) [(.var 2), (.var 3)])))) (sRet (fC (.bl false))) sNil) (zpD ds ds) [some (false, .tup ds), some (false, .tup ds), none, none]).wp (fun r => r.1 = .nx ∧ r.2.length = 4) := by
      refine forL_wp (fun l ρ => (∀ x ∈ l, ∃ d ∈ ds, x = .tup [d, d]) ∧ ∃ a b c e, ρ = [a, b, c, e]) (fun x l ρ hI => ?_) (fun ρ hI => ?_) _ _ ⟨fun x hx => ?_, _, _, _, _, rfl⟩
      · obtain ⟨h1, a, b, c, e, rfl⟩ := hI
        obtain ⟨d, hd, rfl⟩ := h1 _ List.mem_cons_self
        have := same_ok n d (List.all_eq_true.mp h d hd)
        refine ⟨[a, b, some (false, d), some (false, d)], by simp, ?_⟩
        simp [this]
        exact fun x hx => h1 x (List.mem_cons_of_mem _ hx)
      · obtain ⟨_, a, b, c, e, rfl⟩ := hI
        exact ⟨rfl, rfl⟩
      · rw [zp_self] at hx
        obtain ⟨d, hd, rfl⟩ := List.mem_map.mp hx
        exact ⟨d, hd, rfl⟩
    obtain ⟨r, er, h1, h2⟩ := O.wp_ex loop
    obtain ⟨fl, ρ⟩ := r
    cases h1
    unfold lawSame bSame
    rw [run2]
    simp [List.replicate, finF, outs, er, D.isTup]
  | 0, .tup ds, h => by cases h
  | 0, .lst ds, h => by cases h
  | n + 1, .lst ds, h => by cases h
  | 0, .dic _ _, h => by cases h
  | n + 1, .dic _ _, h => by cases h
  | 0, .fn _, h => by cases h
  | n + 1, .fn _, h => by cases h
  | 0, .exc _ _, h => by cases h
  | n + 1, .exc _ _, h => by cases h
  | 0, .scr _, h => by cases h
  | n + 1, .scr _, h => by cases h
end U
namespace U
set_option autoImplicit false
open PySem L2
def iT (r : List Int) : D := .tup (r.map .int)
def sysD (many : Int) (rows : List (List Int)) : D := .tup [.int many, .tup (rows.map iT)]
structure SysOk (many : Int) (rows : List (List Int)) : Prop where
  lo : 1 ≤ many
  hi : many ≤ 1000
  nr : rows.length ≤ 1000
  len : ∀ r ∈ rows, (r.length : Int) = many
  rg : ∀ r ∈ rows, ∀ z ∈ r, 0 ≤ z ∧ z < many
def act (rows : List (List Int)) (d b : Int) : Int := (rows.getD d.toNat []).getD b.toNat 0
def RunOk (rows : List (List Int)) (run : List Int) : Prop := ∀ d ∈ run, 0 ≤ d ∧ d < rows.length
theorem imm_ints : ∀ r : List Int, D.immL (r.map .int) = true
  | [] => rfl
  | _ :: r => imm_ints r
@[simp] theorem imm_iT (r : List Int) : (iT r).imm = true := imm_ints r
@[simp] theorem imm_ints' (r : List Int) : D.immL (r.map .int) = true := imm_ints r
theorem imm_rows : ∀ rows : List (List Int), D.immL (rows.map iT) = true
  | [] => rfl
  | r :: rows => by
    rw [List.map_cons, immL1, imm_iT, imm_rows rows]; rfl
@[simp] theorem imm_sys (many : Int) (rows : List (List Int)) : (sysD many rows).imm = true := by
  unfold sysD
  rw [immT, immL1, immL1, immT, imm_rows]; rfl
@[simp] theorem v_sys0 (many : Int) (rows : List (List Int)) : dIx (sysD many rows) (.int 0) = some (false, .int many) := v_ixT0 _ _
@[simp] theorem v_sys1 (many : Int) (rows : List (List Int)) : dIx (sysD many rows) (.int 1) = some (false, .tup (rows.map iT)) := v_ixT1 _ _ _
section
variable {many : Int} {rows : List (List Int)}
def goes (rows : List (List Int)) (run : List Int) (b : Int) : Int := run.foldl (fun b d => act rows d b) b
end
end U
namespace U
set_option autoImplicit false
open PySem L2
theorem back_same {ρ1 ρ' : En} {vs : List Nat} (h : wipeE ρ' vs = wipeE ρ1 vs) : backE ρ1 ρ' vs = ρ1 := by
  have hl : ρ1.length = ρ'.length := by
    have := congrArg List.length h
    rw [wipeE_len, wipeE_len] at this
    exact this.symm
  apply List.ext_getElem?
  intro j
  rw [backE_get vs ρ1 ρ' j hl]
  split
  · rfl
  · rename_i hj
    have := congrArg (fun l : En => l[j]?) h
    rw [wipeE_get, wipeE_get, if_neg fun z => hj z.1, if_neg fun z => hj z.1] at this
    exact this
theorem back_set {ρ1 ρ' : En} {vs : List Nat} {i : Nat} {x : Option (Bool × D)} (hi : i ∉ vs) (h : wipeE ρ' vs = wipeE (ρ1.set i x) vs) : backE ρ1 ρ' vs = ρ1.set i x := by
  have hl : ρ1.length = ρ'.length := by
    have := congrArg List.length h
    rw [wipeE_len, wipeE_len, List.length_set] at this
    exact this.symm
  apply List.ext_getElem?
  intro j
  rw [backE_get vs ρ1 ρ' j hl]
  split
  · rename_i hj
    rw [List.getElem?_set_ne fun z => hi (by rw [z]; exact hj)]
  · rename_i hj
    have := congrArg (fun l : En => l[j]?) h
    rw [wipeE_get, wipeE_get, if_neg fun z => hj z.1, if_neg fun z => hj z.1] at this
    exact this
section
variable {vs : List Nat} {fi : IF} {t : Tg} {cs : TF} {f : EF} {ρ ρ1 : En} {ds : List D}
def BxI (es : List D) : Prop := Bx (.lst es) ∧ D.immL es = true
theorem fLc_box {ib : Nat} (P : D → Prop) (hib : ib ∉ vs) (hfi : fi ρ = .ok (ds, ρ1)) (hno : noOwn ρ1 vs = true) (hlen : ds.length ≤ 16777216) {es0 : List D} (h0 : ρ1[ib]? = some (some (true, .lst es0))) (hb : BxI es0)
    (hs : ∀ d ∈ ds, ∀ es, BxI es → ∃ ρ2 fr x ρ3 es', t d (wipeE (ρ1.set ib (some (true, .lst es))) vs) = some ρ2 ∧ f ρ2 = .ok (fr, x, ρ3) ∧ P x ∧ BxI es' ∧ wipeE ρ3 vs = wipeE (ρ1.set ib (some (true, .lst es'))) vs) :
    ∃ l es', fLc vs fi t (tAll []) f ρ = .ok (true, .lst l, ρ1.set ib (some (true, .lst es'))) ∧ l.length = ds.length ∧ (∀ x ∈ l, P x) ∧ BxI es' := by
  have hset : ρ1.set ib (some (true, .lst es0)) = ρ1 := by
    apply List.ext_getElem?
    intro j
    by_cases e : ib = j
    · subst e
      have hl : ib < ρ1.length := by
        by_cases k : ib < ρ1.length
        · exact k
        · rw [List.getElem?_eq_none (by omega)] at h0; cases h0
      rw [List.getElem?_set_self hl, h0]
    · rw [List.getElem?_set_ne e]
  obtain ⟨w, e, l, es', q1, q2, q3, q4⟩ := O.wp_ex (o := fLc vs fi t (tAll []) f ρ) (Q := fun w => ∃ l es', w = (true, .lst l, ρ1.set ib (some (true, .lst es'))) ∧ l.length = ds.length ∧ (∀ x ∈ l, P x) ∧ BxI es') (by
    refine fLc_wp (fun acc l ρ' => (∃ es, BxI es ∧ wipeE ρ' vs = wipeE (ρ1.set ib (some (true, .lst es))) vs) ∧ (∀ d ∈ l, d ∈ ds) ∧ acc.length + l.length = ds.length ∧ ∀ x ∈ acc, P x) (O.wp_of hfi ⟨hno, hlen, ⟨⟨es0, hb, by rw [hset]⟩, fun _ h => h, by simp, fun x hx => nomatch hx⟩, fun l ρ2 h => ?_⟩) fun acc d l ρ' h => ?_
    · obtain ⟨⟨es, h1, h2⟩, _, h3, h4⟩ := h
      exact ⟨l, es, by rw [back_set hib h2], by simpa using h3, h4, h1⟩
    · obtain ⟨⟨es, h1, h2⟩, h3, h4, h5⟩ := h
      obtain ⟨ρ2, fr, x, ρ3, es', e1, e2, e3, e4, e5⟩ := hs d (h3 d List.mem_cons_self) es h1
      rw [h2]
      refine ⟨ρ2, e1, ?_⟩
      show (O.ok (true, ρ2)).wp _
      rw [O.wp_ok, if_pos rfl]
      refine O.wp_of e2 ⟨⟨es', e4, e5⟩, fun x hx => h3 x (List.mem_cons_of_mem _ hx), by simp at h4 ⊢; omega, fun y hy => ?_⟩
      rcases List.mem_append.mp hy with z | z
      · exact h5 y z
      · rw [List.mem_singleton.mp z]; exact e3)
  exact ⟨l, es', by rw [e, q1], q2, q3, q4⟩
end
section
variable {s t : SF} {i : Nat} {f : EF} {ρ : En} {Q : Fl × En → Prop}
end
def ups (n : Nat) : List Int := (List.range n).map fun (i : Nat) => (i : Int)
theorem rgD_ups (n : Nat) : rgD 0 1 n = (ups n).map .int := by
  unfold rgD ups
  rw [List.map_map]
  refine List.map_congr_left fun i _ => ?_
  show D.int (0 + (i : Int) * 1) = D.int (i : Int)
  rw [Int.zero_add, Int.mul_one]
theorem ups_mem {n : Nat} {b : Int} (h : b ∈ ups n) : 0 ≤ b ∧ b < n := by
  unfold ups at h
  obtain ⟨i, h1, rfl⟩ := List.mem_map.mp h
  have := List.mem_range.mp h1
  omega
@[simp] theorem ups_len (n : Nat) : (ups n).length = n := by unfold ups; simp
@[simp] theorem v_tupleL (ds : List D) : dTuple [.lst ds] = some (false, .tup ds) := rfl
@[simp] theorem v_tupleT (ds : List D) : dTuple [.tup ds] = some (false, .tup ds) := rfl
end U
namespace U
set_option autoImplicit false
open PySem PySem.Spec PyProof.Rows L2
inductive M (α : Type) where
  | ok (a : α)
  | ex (k : Str) (d : D)
  | bad
namespace M
variable {α β : Type}
def bind : M α → (α → M β) → M β
  | .ok a, f => f a
  | .ex k d, _ => .ex k d
  | .bad, _ => .bad
@[simp] theorem bind_ok (a : α) (f : α → M β) : (M.ok a).bind f = f a := rfl
@[simp] theorem bind_ex (k : Str) (d : D) (f : α → M β) : (M.ex k d : M α).bind f = .ex k d := rfl
@[simp] theorem bind_bad (f : α → M β) : (M.bad : M α).bind f = .bad := rfl
theorem inv {m : M α} {f : α → M β} {r : β} (h : m.bind f = .ok r) : ∃ a, m = .ok a ∧ f a = .ok r := by
  cases m with
  | ok a => exact ⟨a, rfl, h⟩
  | ex k d => cases h
  | bad => cases h
end M
section
variable {α : Type}
def oM : Option α → M α
  | some a => .ok a
  | none => .bad
@[simp] theorem oM_some (a : α) : oM (some a) = .ok a := rfl
theorem oM_inv {o : Option α} {a : α} (h : oM o = .ok a) : o = some a := by
  cases o with
  | none => cases h
  | some b => cases h; rfl
end
def oV (o : Option (Bool × D)) : M D := match o with
  | some r => .ok r.2
  | none => .bad
@[simp] theorem oV_some (b : Bool) (x : D) : oV (some (b, x)) = .ok x := rfl
theorem oV_inv {o : Option (Bool × D)} {x : D} (h : oV o = .ok x) : ∃ b, o = some (b, x) := by
  cases o with
  | none => cases h
  | some r => cases h; exact ⟨r.1, rfl⟩
def q1 (k : D → Option (Bool × D)) (x : D) : M D := oV (k x)
def q2 (k : D → D → Option (Bool × D)) (x y : D) : M D := oV (k x y)
def qN (k : List D → Option (Bool × D)) (xs : List D) : M D := oV (k xs)
def b2 (k : D → D → Option Bool) (x y : D) : M Bool := oM (k x y)
@[simp] theorem q1_def (k : D → Option (Bool × D)) (x : D) : q1 k x = oV (k x) := rfl
@[simp] theorem q2_def (k : D → D → Option (Bool × D)) (x y : D) : q2 k x y = oV (k x y) := rfl
@[simp] theorem qN_def (k : List D → Option (Bool × D)) (xs : List D) : qN k xs = oV (k xs) := rfl
@[simp] theorem b2_def (k : D → D → Option Bool) (x y : D) : b2 k x y = oM (k x y) := rfl
def asB : D → M Bool
  | .bl b => .ok b
  | _ => .bad
def asI : D → M Int
  | .int i => .ok i
  | _ => .bad
def asT2 : D → M (D × D)
  | .tup [a, b] => .ok (a, b)
  | _ => .bad
@[simp] theorem asB_bl (b : Bool) : asB (.bl b) = .ok b := rfl
@[simp] theorem asI_int (i : Int) : asI (.int i) = .ok i := rfl
@[simp] theorem asT2_tup (a b : D) : asT2 (.tup [a, b]) = .ok (a, b) := rfl
theorem asB_inv {x : D} {b : Bool} (h : asB x = .ok b) : x = .bl b := by
  unfold asB at h; split at h <;> cases h; rfl
theorem asI_inv {x : D} {i : Int} (h : asI x = .ok i) : x = .int i := by
  unfold asI at h; split at h <;> cases h; rfl
theorem asT2_inv {x a b : D} (h : asT2 x = .ok (a, b)) : x = .tup [a, b] := by
  unfold asT2 at h; split at h <;> cases h; rfl
def isL : D → Bool
  | .lst _ => true
  | _ => false
@[simp] theorem isL_lst (l : List D) : isL (.lst l) = true := rfl
def mutN (g : MG) (x : D) (xs : List D) : M (D × D) := match x with
  | .lst ds => match g ds xs with
    | some r => .ok (r.1, .lst r.2)
    | none => .bad
  | _ => .bad
@[simp] theorem mutN_lst (g : MG) (ds xs : List D) : mutN g (.lst ds) xs = match g ds xs with
    | some r => .ok (r.1, .lst r.2)
    | none => .bad := rfl
def enN (x : D) : M (List D) := oM ((seqOf x).map (enD 0))
inductive Fw (σ ω : Type) where
  | nx (s : σ)
  | bk (s : σ)
  | rt (w : ω)
section
variable {σ ω : Type}
def forN (body : σ → D → M (Fw σ ω)) : List D → σ → M (σ ⊕ ω)
  | [], s => .ok (.inl s)
  | d :: ds, s => (body s d).bind fun r => match r with
    | .nx s => forN body ds s
    | .bk s => .ok (.inl s)
    | .rt w => .ok (.inr w)
def forS (body : σ → D → M σ) : List D → σ → M σ
  | [], s => .ok s
  | d :: ds, s => (body s d).bind fun s => forS body ds s
def whS (t : σ → M Bool) (body : σ → M σ) : Nat → σ → M σ
  | 0, _ => .bad
  | n + 1, s => (t s).bind fun c => if c = true then (body s).bind fun s => whS t body n s else .ok s
def mapN (f : D → M D) : List D → M (List D)
  | [] => .ok []
  | d :: ds => (f d).bind fun x => (mapN f ds).bind fun xs => .ok (x :: xs)
def fmN (f : D → M (Option D)) : List D → M (List D)
  | [] => .ok []
  | d :: ds => (f d).bind fun o => (fmN f ds).bind fun xs => .ok (match o with
    | some x => x :: xs
    | none => xs)
def mapIO (f : D → D → M (D × D)) : List D → D → M (List D × D)
  | [], b => .ok ([], b)
  | d :: ds, b => (f b d).bind fun x => (mapIO f ds x.2).bind fun xs => .ok (x.1 :: xs.1, xs.2)
def lnN (ds : List D) : M Unit := if ds.length ≤ 16777216 then .ok () else .bad
end
def wr (fr : Bool) : O (Bool × D × List D) → M D
  | .ok (f, v, []) => if f = fr then .ok v else .bad
  | _ => .bad
theorem wr_inv {fr : Bool} {o : O (Bool × D × List D)} {v : D} (h : wr fr o = .ok v) : o = .ok (fr, v, []) := by
  unfold wr at h
  split at h
  · split at h
    · rename_i e; cases h; cases e; rfl
    · cases h
  · cases h
@[simp] theorem wr_ok (fr : Bool) (v : D) : wr fr (.ok (fr, v, [])) = .ok v := by unfold wr; simp
def wrIO (fr : Bool) (x : D) : O (Bool × D × List D) → M (D × D)
  | .ok (f, v, [b]) => if f = fr ∧ isL b = true ∧ isL x = true then .ok (v, b) else .bad
  | _ => .bad
theorem wrIO_inv {fr : Bool} {x : D} {o : O (Bool × D × List D)} {r : D × D} (h : wrIO fr x o = .ok r) : ∃ l0 l, x = .lst l0 ∧ r.2 = .lst l ∧ o = .ok (fr, r.1, [r.2]) := by
  unfold wrIO at h
  split at h
  · split at h
    · rename_i e
      cases h
      obtain ⟨e, h1, h2⟩ := e
      subst e
      rename_i b
      cases b with
      | lst l =>
        cases x with
        | lst l0 => exact ⟨l0, l, rfl, rfl, rfl⟩
        | _ => cases h2
      | _ => cases h1
    · cases h
  · cases h
@[simp] theorem wrIO_ok (fr : Bool) (v : D) (l0 l : List D) : wrIO fr (.lst l0) (.ok (fr, v, [.lst l])) = .ok (v, .lst l) := by unfold wrIO; simp
end U
namespace U
set_option autoImplicit false
open PySem PySem.Spec PyProof.Rows L2
def ConT (K : PySem.W.Frag) (mg : Str → Option Value) (x : Str) (ns : List Int) : Prop :=
  ∃ f, mg x = some (.ref f) ∧ ∀ H : Hp, SqT K H f (ns.map V.int)
theorem rep_ints {c : Cc} {A : Addr → Prop} {H : Hp} : ∀ ns : List Int, RepL c A H (ns.map V.int) (ns.map D.int)
  | [] => .nil
  | n :: ns => .cons (.int n) (rep_ints ns)
section
variable {X : Cx} {c : Cc} {E : XK} {x : Str} {pos : Pos}
theorem de_conT {ns : List Int} (hK : X.K = c.K) (h : ConT X.K X.mg x ns) (hg : Gl X x := by rfl) (hd : (x == ("__debug__" : Str)) = false := by decide) : DE X c E (.Name x pos) (fC (.tup (ns.map .int))) := by
  obtain ⟨f, hm, hs⟩ := h
  refine ⟨pe_imp (pe_glob hg hm (v := .ref f) rfl hd) fun σ H Q ⟨ρ, Z, B, r0, q⟩ => ?_⟩
  exact q _ H r0 (.tup (by rw [← hK]; exact hs H) (rep_ints ns))
end
theorem conT_mk {K : PySem.W.Frag} {h : Heap} {mg : Str → Option Value} {x : Str} {f : Addr} {o : Obj} {its : Array Value} {n : Nat} {ns : List Int} (X : K.In h) (G : h.Ns mainGlobals mg)
    (a : PySem.W.nsIn K mainGlobals x = some (some (.ref f))) (l : K.lookup f = some o) (hc : o.cls = .type "tuple") (hd : o.data = .seq its n) (hz : its.size ≤ sizeLine) (v : Vals (ns.map V.int) its.toList) : ConT K mg x ns :=
  ⟨f, PySem.W.mg_of X G a, fun H => .inr ⟨o, its, n, l, hc, hd, hz, v⟩⟩
end U
namespace U
set_option autoImplicit false
open PySem PySem.Spec PyProof.Rows L2
section
variable {X : Cx} {c : Cc} {E : XK} {e : Expr} {f : EF} {elts : List Expr} {kk : Nat} {tpos apos cpos : Pos}
end
end U
namespace U
set_option autoImplicit false
open PySem PySem.Spec PyProof.Rows L2
section
variable {c : Cc} {σ : St} {H H' : Hp} {ρ : En} {Z : Addr → Prop} {B : Hp}
end
section
variable {X : Cx} {c : Cc} {E : XK} {e : Expr} {f : EF}
end
section
variable {X : Cx} {c : Cc} {E : XK} {vs : List Nat} {fi : IF} {t : Tg} {cs : TF} {f : EF} {tv : List Nat} {elt tg iter : Expr} {ifs : List Expr} {pos : Pos}
end
end U
namespace U
set_option autoImplicit false
open PySem PySem.Spec PyProof.Rows L2
section
variable {prog : Program} {w : World} {A : Around} {E : Value → Shared → Prop} {s : Shared}
end
section
variable {prog : Program} {w : World} {A : Around} {E : Value → Shared → Prop} {s : Shared} {l : Addr} {xs : Array (Int × Tok)}
theorem iter_tupI {R : Value → Shared → Prop} (hl : s.heap.IsTuple l (intItems xs))
    (k : ∀ s2 : Shared, s2 = { s with heap := s.heap.push { cls := .type "tuple_iterator", data := .fields #[.ref l, .int 0 0] } } →
      (s2.heap.IsTupleIter s.heap.objs.size l 0 ∧ s2.heap.IsTuple l (intItems xs)) → (∀ b ∈ [s.heap.objs.size, l], b < s2.heap.objs.size) → l ≠ s.heap.objs.size → R (.ref s.heap.objs.size) s2) : wpAny (model prog w) A (pyIter (.ref l)) R E s := by
  have lt : l < s.heap.objs.size := by obtain ⟨_, e, _⟩ := hl; exact Heap.lt_size e
  refine wpAny_pyIter_tuple hl (k _ rfl ⟨⟨_, Heap.get?_push_size _ rfl, rfl, rfl⟩, hl.push _⟩ (fun b hb => ?_) (Nat.ne_of_lt lt))
  show b < (s.heap.push _).objs.size
  rw [Heap.size_push]
  simp only [List.mem_cons, List.not_mem_nil, or_false] at hb
  rcases hb with rfl | rfl
  · exact Nat.lt_succ_self _
  · exact Nat.lt_succ_of_lt lt
theorem kept_tupI {h' : Heap} (hk : ∀ b o, b ∉ [s.heap.objs.size] → (s.heap.push { cls := .type "tuple_iterator", data := .fields #[.ref l, .int 0 0] }).get? b = some o → h'.get? b = some o) : ∀ b o, s.heap.get? b = some o → h'.get? b = some o := fun b o e =>
  hk b o (fun hm => Nat.lt_irrefl _ (by have := Heap.lt_size e; rwa [List.mem_singleton.mp hm] at this)) (Heap.get?_push_of_some _ e)
theorem sum_tupI {us : List Value} {ns : List Int} {R : Value → Shared → Prop} (hh : A.handled = none) (hl : s.heap.IsTuple l us.toArray) (hi : IntsAre us ns)
    (k : ∀ h' tk t', (∀ b o, s.heap.get? b = some o → h'.get? b = some o) → R (.int ns.sum t') { s with heap := h', toks := tk }) : wpAny (model prog w) A (call (.builtin "sum") [.ref l]) R E s := by
  obtain ⟨xs, e⟩ := hi.allInts.items
  have hn : numsOf (intItems xs).toList = ns := by rw [← e]; exact hi.numsOf
  rw [nums_intItems] at hn
  rw [e] at hl
  refine call_sum_walkG (iter_tupI hl fun s2 e st hfp hlI => ?_)
  subst e
  refine ⟨_, _, _, _, _, _, numAt xs, rfl, Walks.tuple (A := A.in1) hh _ l hlI (intItems xs), st, hfp, (fun _ _ => intItems_at), fun h' tk t' hk => ?_⟩
  have := k h' tk t' (kept_tupI hk)
  have e2 : preSum (numAt xs) (intItems xs).size = ns.sum := by
    rw [show (intItems xs).size = xs.size by simp [intItems], preSum_eq, List.take_of_length_le (by simp), hn]
  rw [e2]; exact this
end
def rSumT (K : PySem.W.Frag) : List V → Hp → VK → Prop := fun vs H Q => ∃ (a : Addr) (ns : List Int), vs = [V.ref a] ∧ SqT K H a (ns.map V.int) ∧ Q (.int ns.sum) H
section
variable {X : Cx}
theorem cr_sumT (hc : X.calm = true) : CallR X (.builtin "sum") (rSumT X.K) := by
  intro pins s σ H vs us Q I r h
  obtain ⟨a, ns, rfl, hs, q⟩ := h
  obtain ⟨its, rv, hl, _⟩ := I.tuple hs
  rw [Vals.ref1 r]
  exact sum_tupI (I.ok.hd hc) hl rv.ints fun h' tk t' hk => ⟨.int _, H, I.kept hk, ⟨_, rfl⟩, q⟩
end
def dSumA : List D → Option (Bool × D)
  | [.tup ds] => (intsD ds).map fun ns => (false, .int ns.sum)
  | ds => dSum ds
section
variable {X : Cx} {c : Cc} {E : XK} {e : Expr} {ps : List Pk} {p pos : Pos}
theorem one_intsT (hK : X.K = c.K) {A : Addr → Prop} {H : Hp} {vs : List V} {ds : List D} {ns : List Int} (h : RepTs c A H vs [.tup ds]) (e : intsD ds = some ns) : ∃ a, vs = [.ref a] ∧ SqT X.K H a (ns.map V.int) := by
  obtain ⟨v, rfl, hv⟩ := repTs1 h
  obtain ⟨a, xs, rfl, h1, h2⟩ := repT_tup hv
  rw [intsD_map e] at h2
  rw [repL_intsV h2] at h1
  exact ⟨a, rfl, by rw [hK]; exact h1⟩
theorem gs_sumA (hK : X.K = c.K) : GSN c dSumA (fun vs H Q => rSum X.K vs H Q ∨ rSumT X.K vs H Q) := by
  intro A H vs ds fr d Q h e k
  unfold dSumA at e
  split at e
  · rename_i ds
    cases q : intsD ds with
    | none => rw [q] at e; cases e
    | some ns =>
      rw [q] at e
      cases e
      obtain ⟨a, rfl, h1⟩ := one_intsT hK h q
      exact .inr ⟨a, ns, rfl, h1, k _ H (new_self (.int _))⟩
  · exact .inl (gs_sum hK A H vs _ fr d Q h e k)
theorem b_sumA (hK : X.K = c.K) (hc : X.calm = true) (hm : X.mg "sum" = none) (ha : DPs X c E [e] ps) (hg : Gl X "sum" := by rfl) (hs : starEach [e] X.env = (false, eval e X.env) :: starEach [] X.env := by rfl) (hpl : (backTo pos (starEach [] X.env)).any (·.1) = false := by rfl) : DE X c E (.Call (.Name "sum" p) [e] [] pos) (opN dSumA ps) :=
  de_opN (gs_sumA hK) ha fun h => pe_callB ((cr_sum hc).or (cr_sumT hc)) hg hm (by rfl) h (by decide) (by decide) hs hpl
end
end U
namespace U
set_option autoImplicit false
open PySem PySem.Spec PyProof.Rows L2
def EV (f : EF) (ρ : En) (fr : Bool) (x : D) (ρ' : En) : Prop := f ρ = .ok (fr, x, ρ')
def EX (f : EF) (ρ : En) (x : D) (ρ' : En) : Prop := ∃ fr, f ρ = .ok (fr, x, ρ')
def PE (p : Pk) (ρ : En) (o : Option D) (ρ' : En) : Prop := p.ev ρ = .ok (o, ρ')
def PG (p : Pk) (o : Option D) (ρ : En) (x : D) : Prop := p.get o ρ = some x
def PEs (ps : List Pk) (ρ : En) (o : List (Option D)) (ρ' : En) : Prop := Pk.evs ps ρ = .ok (o, ρ')
def PGs (ps : List Pk) (o : List (Option D)) (ρ : En) (x : List D) : Prop := Pk.gets ps o ρ = some x
def EA (fs : List EF) (ρ : En) (xs : List D) (ρ' : En) : Prop := evA fs ρ = .ok (xs, ρ')
def TV (t : TF) (ρ : En) (b : Bool) (ρ' : En) : Prop := t ρ = .ok (b, ρ')
def IV (f : IF) (ρ : En) (ds : List D) (ρ' : En) : Prop := f ρ = .ok (ds, ρ')
def SP (o : Option EF) (ρ : En) (i : Option Int) (ρ' : En) : Prop := fSlP o ρ = .ok (i, ρ')
class F2 (k : D → D → Option (Bool × D)) (b : outParam Bool) : Prop where
  f : ∀ x y r, k x y = some r → r.1 = b
class FN (k : List D → Option (Bool × D)) (b : outParam Bool) : Prop where
  f : ∀ x r, k x = some r → r.1 = b
section
variable {f g : EF} {ρ ρ1 ρ2 ρ3 ρ' : En} {fr b c : Bool} {x y v d : D} {i j : Nat} {p q : Pk} {a a' : Option D} {ps : List Pk} {as : List (Option D)} {xs : List D} {fs : List EF} {t ta tb : TF}
theorem vx (h : EV f ρ fr x ρ') : EX f ρ x ρ' := ⟨fr, h⟩
theorem ev_c : EV (fC d) ρ false d ρ := rfl
theorem ev_varF (h : ρ[i]? = some (some (false, x))) : EV (fVar i) ρ false x ρ := by
  unfold EV; rw [r_var, h]
  obtain ⟨hi, e⟩ := List.getElem?_eq_some_iff.mp h
  have : ρ.set i (some (false, x)) = ρ := by rw [← e]; exact List.set_getElem_self hi
  show O.ok (false, x, ρ.set i (some (false, x))) = _
  rw [this]
theorem ev_mvF (h : ρ[i]? = some (some (false, x))) : EV (fMv i) ρ false x ρ := by
  unfold EV; rw [r_mv, h]
theorem pe_v (h : ρ[i]? = some (some (b, x))) : PE (.var i) ρ none ρ := by
  unfold PE; rw [r_pr, h]
theorem pe_e (h : EX f ρ x ρ') : PE (.val f) ρ (some x) ρ' := by
  obtain ⟨fr, h⟩ := h
  unfold PE; rw [r_pv, h]; rfl
theorem pg_v (h : ρ[i]? = some (some (b, x))) : PG (.var i) none ρ x := by
  unfold PG; rw [r_get0, r_slot, h]
theorem pg_e : PG p (some x) ρ x := rfl
theorem pes0 : PEs [] ρ [] ρ := rfl
theorem pes1 (h : PE p ρ a ρ1) (h2 : PEs ps ρ1 as ρ2) : PEs (p :: ps) ρ (a :: as) ρ2 := by
  unfold PEs; rw [r_evs1, h, O.bind_ok]; dsimp only; rw [h2]; rfl
theorem pgs0 : PGs [] [] ρ [] := rfl
theorem pgs1 (h : PG p a ρ x) (h2 : PGs ps as ρ xs) : PGs (p :: ps) (a :: as) ρ (x :: xs) := by
  unfold PGs; rw [r_gets1, h, h2]
theorem ea0 : EA [] ρ [] ρ := rfl
theorem ea1 (h : EX f ρ x ρ1) (h2 : EA fs ρ1 xs ρ2) : EA (f :: fs) ρ (x :: xs) ρ2 := by
  obtain ⟨fr, h⟩ := h
  unfold EA; rw [r_evA1, h, O.bind_ok]; dsimp only; rw [h2]; rfl
theorem ev_tup (h : EA fs ρ xs ρ') (hl : decide (xs.length ≤ 16777216) = true) : EV (fTup fs) ρ false (.tup xs) ρ' := by
  unfold EV; rw [r_tup, h, O.bind_ok, if_pos (of_decide_eq_true hl)]
theorem ev_lst (h : EA fs ρ xs ρ') (hl : decide (xs.length ≤ 16777216) = true) : EV (fLst fs) ρ true (.lst xs) ρ' := by
  unfold EV; rw [r_lst, h, O.bind_ok, if_pos (of_decide_eq_true hl)]
theorem ex_op2 {k : D → D → Option (Bool × D)} (h : PE p ρ a ρ1) (h2 : PE q ρ1 a' ρ2) (gx : PG p a ρ2 x) (gy : PG q a' ρ2 y) (e : q2 k x y = .ok v) : EX (op2 k p q) ρ v ρ2 := by
  obtain ⟨fr, e⟩ := oV_inv e
  refine ⟨fr, ?_⟩
  rw [r_op2, h, O.bind_ok]; dsimp only; rw [h2, O.bind_ok]; dsimp only; rw [gx, gy, r_get2, e]
theorem ev_op2 {k : D → D → Option (Bool × D)} [F : F2 k b] (h : PE p ρ a ρ1) (h2 : PE q ρ1 a' ρ2) (gx : PG p a ρ2 x) (gy : PG q a' ρ2 y) (e : q2 k x y = .ok v) : EV (op2 k p q) ρ b v ρ2 := by
  obtain ⟨fr, e⟩ := oV_inv e
  have := F.f _ _ _ e
  subst this
  unfold EV
  rw [r_op2, h, O.bind_ok]; dsimp only; rw [h2, O.bind_ok]; dsimp only; rw [gx, gy, r_get2, e]
theorem ev_opN {k : List D → Option (Bool × D)} [F : FN k b] (h : PEs ps ρ as ρ1) (gx : PGs ps as ρ1 xs) (e : qN k xs = .ok v) : EV (opN k ps) ρ b v ρ1 := by
  obtain ⟨fr, e⟩ := oV_inv e
  have := F.f _ _ e
  subst this
  unfold EV
  rw [r_opN, h, O.bind_ok]; dsimp only; rw [gx]; dsimp only; rw [e]
theorem tv_op2 {k : D → D → Option Bool} (h : PE p ρ a ρ1) (h2 : PE q ρ1 a' ρ2) (gx : PG p a ρ2 x) (gy : PG q a' ρ2 y) (e : b2 k x y = .ok c) : TV (tOp2 k p q) ρ c ρ2 := by
  have e := oM_inv e
  unfold TV
  rw [r_tOp2, h, O.bind_ok]; dsimp only; rw [h2, O.bind_ok]; dsimp only; rw [gx, gy]; dsimp only; rw [e]
theorem tv_of (h : PE p ρ a ρ1) (gx : PG p a ρ1 x) (e : asB x = .ok c) : TV (tOf p) ρ c ρ1 := by
  have := asB_inv e
  subst this
  unfold TV
  rw [r_tOf, h, O.bind_ok]; dsimp only; rw [gx]
theorem tv_no (h : TV t ρ b ρ1) : TV (tNo t) ρ (!b) ρ1 := by
  unfold TV; rw [r_tNo, h]; rfl
theorem tv_or {B : M Bool} (h : TV ta ρ b ρ1) (e : (if b = true then .ok true else B) = .ok c) (hb : ∀ c, B = .ok c → TV tb ρ1 c ρ1) : TV (tOr' ta tb) ρ c ρ1 := by
  unfold TV; rw [r_tOr, h, O.bind_ok]; dsimp only
  cases b with
  | true => rw [if_pos rfl] at e ⊢; cases e; rfl
  | false => rw [if_neg Bool.false_ne_true] at e ⊢; exact hb c e
theorem tv_all0 : TV (tAll []) ρ true ρ := rfl
theorem ev_if {A B : M D} (h : TV t ρ c ρ1) (e : (if c = true then A else B) = .ok v) (ha : ∀ v, A = .ok v → EV f ρ1 fr v ρ2) (hb : ∀ v, B = .ok v → EV g ρ1 fr v ρ2) : EV (fIf t f g) ρ fr v ρ2 := by
  unfold EV
  cases c with
  | true =>
    rw [if_pos rfl] at e
    rw [r_if, h, O.bind_ok, if_pos rfl, ha v e]
  | false =>
    rw [if_neg Bool.false_ne_true] at e
    rw [r_if, h, O.bind_ok, if_neg Bool.false_ne_true, hb v e]
theorem sp0 : SP none ρ none ρ := rfl
theorem sp1 {k : Int} (h : EX f ρ x ρ1) (e : asI x = .ok k) : SP (some f) ρ (some k) ρ1 := by
  obtain ⟨fr, h⟩ := h
  have := asI_inv e
  subst this
  show (f ρ).bind _ = _
  rw [h]; rfl
theorem ex_sl {lo hi : Option EF} {l u : Option Int} (h : PE p ρ a ρ1) (h2 : SP lo ρ1 l ρ2) (h3 : SP hi ρ2 u ρ3) (gx : PG p a ρ3 x) (e : q1 (dSl l u) x = .ok v) : EX (fSl p lo hi) ρ v ρ3 := by
  obtain ⟨fr, e⟩ := oV_inv e
  refine ⟨fr, ?_⟩
  rw [r_sl, h, O.bind_ok]; dsimp only; rw [h2, O.bind_ok]; dsimp only; rw [h3, O.bind_ok]; dsimp only; rw [gx]; dsimp only; rw [e]
theorem ev_mut {k : MG} {r : D × D} (h0 : ρ[i]? = some (some (true, x))) (h : EA fs ρ xs ρ1) (h1 : ρ1[i]? = some (some (true, x))) (e : mutN k x xs = .ok r) : EV (fMut k i fs) ρ false r.1 (ρ1.set i (some (true, r.2))) := by
  unfold mutN at e
  split at e
  · unfold EV
    rw [r_mut, h0]; dsimp only; rw [h, O.bind_ok]; dsimp only; rw [h1]; dsimp only
    split at e
    · rename_i w hw; cases e; first | rw [hw] | rfl
    · cases e
  · cases e
theorem ev_call {k : FD} {o : List D} (h : PEs ps ρ as ρ1) (gx : PGs ps as ρ1 xs) (hs : k xs = .ok (fr, v, o)) (hz : frzAll ps ρ1 = ρ1) : EV (fCall k ps) ρ fr v ρ1 := by
  unfold EV
  rw [r_call, h, O.bind_ok]; dsimp only; rw [gx]; dsimp only; rw [hs, r_res]; dsimp only; rw [hz, ite_self]
theorem ev_callIO {k : FD} {y z : D} (h0 : ρ[i]? = some (some (true, x))) (h : PEs ps ρ as ρ1) (gx : PGs ps as ρ1 xs) (h1 : ρ1[i]? = some (some (true, y))) (hv : ps.all (fun p => !p.isVar i) = true) (hs : ∃ l0 l, y = .lst l0 ∧ z = .lst l ∧ k (y :: xs) = .ok (fr, v, [z])) (hz : frzAll ps ρ1 = ρ1) : EV (fCallIO k i ps) ρ fr v (ρ1.set i (some (true, z))) := by
  obtain ⟨l0, l, rfl, rfl, hs⟩ := hs
  unfold EV
  rw [r_callIO, h0]; dsimp only; rw [h, O.bind_ok]; dsimp only; rw [gx]; dsimp only; rw [h1]; dsimp only
  rw [if_pos hv, hs, r_resIO, hz, ite_self]
theorem iv_rg {k : List D → Option (List D)} {ds : List D} (h : PEs ps ρ as ρ1) (gx : PGs ps as ρ1 xs) (e : oM (k xs) = .ok ds) : IV (fRg k ps) ρ ds ρ1 := by
  have e := oM_inv e
  unfold IV
  rw [r_rg, h, O.bind_ok]; dsimp only; rw [gx]; dsimp only; rw [e]
theorem iv_it {ds : List D} (h : EX f ρ x ρ1) (e : oM (seqI x) = .ok ds) : IV (fIt f) ρ ds ρ1 := by
  have e := oM_inv e
  obtain ⟨fr, h⟩ := h
  unfold IV fIt
  rw [h, O.bind_ok]; dsimp only; rw [e]
theorem iv_enum {ds : List D} (h : EX f ρ x ρ1) (e : enN x = .ok ds) : IV (fEnum f) ρ ds ρ1 := by
  have e := oM_inv e
  unfold IV
  rw [r_enum, ea1 h ea0, O.bind_ok]; dsimp only
  cases q : seqOf x with
  | none => rw [q] at e; cases e
  | some l => rw [q] at e; cases e; rfl
end
section
variable {vs : List Nat} {fi : IF} {t : Tg} {cs : TF} {f : EF} {ρ ρ1 : En} {ds l : List D} {u : Unit}
theorem lnN_inv {ds : List D} (h : lnN ds = .ok u) : ds.length ≤ 16777216 := by
  unfold lnN at h
  split at h
  · assumption
  · cases h
theorem ev_map {F : D → M D} (hi : IV fi ρ ds ρ1) (hno : noOwn ρ1 vs = true) (hl : lnN ds = .ok u) (e : mapN F ds = .ok l)
    (hb : ∀ d x, F d = .ok x → ∃ ρ2 ρ3 ρ4, t d (wipeE ρ1 vs) = some ρ2 ∧ cs ρ2 = .ok (true, ρ3) ∧ EX f ρ3 x ρ4 ∧ wipeE ρ4 vs = wipeE ρ1 vs) : EV (fLc vs fi t cs f) ρ true (.lst l) ρ1 := by
  have key : ∀ (ds l : List D) (ρ' : En), wipeE ρ' vs = wipeE ρ1 vs → mapN F ds = .ok l → ∃ ρ4, lcL vs t cs f ds ρ' = .ok (l, ρ4) ∧ wipeE ρ4 vs = wipeE ρ1 vs := by
    intro ds
    induction ds with
    | nil => intro l ρ' hw e; cases e; exact ⟨ρ', rfl, hw⟩
    | cons d ds ih =>
      intro l ρ' hw e
      obtain ⟨x, e1, e⟩ := M.inv e
      obtain ⟨xs, e2, e⟩ := M.inv e
      cases e
      obtain ⟨ρ2, ρ3, ρ4, h1, h2, ⟨fr, h3⟩, h4⟩ := hb d x e1
      obtain ⟨ρ5, h5, h6⟩ := ih xs ρ4 h4 e2
      refine ⟨ρ5, ?_, h6⟩
      unfold lcL
      rw [hw, h1]; dsimp only; rw [h2, O.bind_ok, if_pos rfl, h3, O.bind_ok]; dsimp only; rw [h5]; rfl
  obtain ⟨ρ4, h1, h2⟩ := key ds l ρ1 rfl e
  unfold EV fLc
  rw [hi, O.bind_ok]; dsimp only; rw [if_pos (by rw [hno, decide_eq_true (lnN_inv hl)]; rfl), h1]; dsimp only; rw [back_same h2]
theorem ev_fm {F : D → M (Option D)} (hi : IV fi ρ ds ρ1) (hno : noOwn ρ1 vs = true) (hl : lnN ds = .ok u) (e : fmN F ds = .ok l)
    (hb : ∀ d o, F d = .ok o → ∃ ρ2 ρ3, t d (wipeE ρ1 vs) = some ρ2 ∧ ((cs ρ2 = .ok (false, ρ3) ∧ o = none ∧ wipeE ρ3 vs = wipeE ρ1 vs) ∨ (cs ρ2 = .ok (true, ρ3) ∧ ∃ x ρ4, o = some x ∧ EX f ρ3 x ρ4 ∧ wipeE ρ4 vs = wipeE ρ1 vs))) : EV (fLc vs fi t cs f) ρ true (.lst l) ρ1 := by
  have key : ∀ (ds l : List D) (ρ' : En), wipeE ρ' vs = wipeE ρ1 vs → fmN F ds = .ok l → ∃ ρ4, lcL vs t cs f ds ρ' = .ok (l, ρ4) ∧ wipeE ρ4 vs = wipeE ρ1 vs := by
    intro ds
    induction ds with
    | nil => intro l ρ' hw e; cases e; exact ⟨ρ', rfl, hw⟩
    | cons d ds ih =>
      intro l ρ' hw e
      obtain ⟨o, e1, e⟩ := M.inv e
      obtain ⟨xs, e2, e⟩ := M.inv e
      cases e
      obtain ⟨ρ2, ρ3, h1, ⟨h2, rfl, h4⟩ | ⟨h2, x, ρ4, rfl, ⟨fr, h3⟩, h4⟩⟩ := hb d o e1
      · obtain ⟨ρ5, h5, h6⟩ := ih xs ρ3 h4 e2
        refine ⟨ρ5, ?_, h6⟩
        unfold lcL
        rw [hw, h1]; dsimp only; rw [h2, O.bind_ok, if_neg Bool.false_ne_true, h5]
      · obtain ⟨ρ5, h5, h6⟩ := ih xs ρ4 h4 e2
        refine ⟨ρ5, ?_, h6⟩
        unfold lcL
        rw [hw, h1]; dsimp only; rw [h2, O.bind_ok, if_pos rfl, h3, O.bind_ok]; dsimp only; rw [h5]; rfl
  obtain ⟨ρ4, h1, h2⟩ := key ds l ρ1 rfl e
  unfold EV fLc
  rw [hi, O.bind_ok]; dsimp only; rw [if_pos (by rw [hno, decide_eq_true (lnN_inv hl)]; rfl), h1]; dsimp only; rw [back_same h2]
theorem ev_mapIO {F : D → D → M (D × D)} {b : D} {r : List D × D} (i : Nat) (hv : decide (i ∈ vs) = false) (hi : IV fi ρ ds ρ1) (h0 : ρ1[i]? = some (some (true, b))) (hno : noOwn ρ1 vs = true) (hl : lnN ds = .ok u) (e : mapIO F ds b = .ok r)
    (hb : ∀ b d r, F b d = .ok r → ∃ ρ2 ρ3 ρ4, t d (wipeE (ρ1.set i (some (true, b))) vs) = some ρ2 ∧ cs ρ2 = .ok (true, ρ3) ∧ EX f ρ3 r.1 ρ4 ∧ wipeE ρ4 vs = wipeE (ρ1.set i (some (true, r.2))) vs) : EV (fLc vs fi t cs f) ρ true (.lst r.1) (ρ1.set i (some (true, r.2))) := by
  have hv := of_decide_eq_false hv
  have key : ∀ (ds : List D) (b : D) (r : List D × D) (ρ' : En), wipeE ρ' vs = wipeE (ρ1.set i (some (true, b))) vs → mapIO F ds b = .ok r → ∃ ρ4, lcL vs t cs f ds ρ' = .ok (r.1, ρ4) ∧ wipeE ρ4 vs = wipeE (ρ1.set i (some (true, r.2))) vs := by
    intro ds
    induction ds with
    | nil => intro b l ρ' hw e; cases e; exact ⟨ρ', rfl, hw⟩
    | cons d ds ih =>
      intro b l ρ' hw e
      obtain ⟨x, e1, e⟩ := M.inv e
      obtain ⟨xs, e2, e⟩ := M.inv e
      cases e
      obtain ⟨ρ2, ρ3, ρ4, h1, h2, ⟨fr, h3⟩, h4⟩ := hb b d x e1
      obtain ⟨ρ5, h5, h6⟩ := ih x.2 xs ρ4 h4 e2
      refine ⟨ρ5, ?_, h6⟩
      unfold lcL
      rw [hw, h1]; dsimp only; rw [h2, O.bind_ok, if_pos rfl, h3, O.bind_ok]; dsimp only; rw [h5]; rfl
  have hs : ρ1.set i (some (true, b)) = ρ1 := by
    obtain ⟨hi, e⟩ := List.getElem?_eq_some_iff.mp h0
    rw [← e]; exact List.set_getElem_self hi
  obtain ⟨ρ4, h1, h2⟩ := key ds b r ρ1 (by rw [hs]) e
  unfold EV fLc
  rw [hi, O.bind_ok]; dsimp only; rw [if_pos (by rw [hno, decide_eq_true (lnN_inv hl)]; rfl), h1]; dsimp only; rw [back_set hv h2]
end
end U
namespace U
set_option autoImplicit false
open PySem PySem.Spec PyProof.Rows L2
def O.wq {α : Type} (o : O α) (Q : α → Prop) : Prop := ∃ a, o = .ok a ∧ Q a
section
variable {α β : Type}
theorem O.wq_bind {o : O α} {f : α → O β} {Q : β → Prop} (h : o.wq fun a => (f a).wq Q) : (o.bind f).wq Q := by
  obtain ⟨a, rfl, b, e, q⟩ := h
  exact ⟨b, e, q⟩
theorem O.wq_ex {o : O α} {Q : α → Prop} (h : o.wq Q) : ∃ a, o = .ok a ∧ Q a := h
theorem O.wq_mono {o : O α} {Q Q' : α → Prop} (h : o.wq Q) (k : ∀ a, Q a → Q' a) : o.wq Q' := let ⟨a, e, q⟩ := h; ⟨a, e, k a q⟩
end
instance : F2 dSub false := ⟨fun x y r h => by unfold dSub dI2 at h; split at h <;> first | (cases h; rfl) | (cases h; done) | (split at h <;> first | (cases h; rfl) | (cases h; done) | (split at h <;> first | (cases h; rfl) | (cases h; done) | (split at h <;> first | (cases h; rfl) | (cases h; done))))⟩
instance : F2 dFdiv false := ⟨fun x y r h => by unfold dFdiv dI2 at h; split at h <;> first | (cases h; rfl) | (cases h; done) | (split at h <;> first | (cases h; rfl) | (cases h; done) | (split at h <;> first | (cases h; rfl) | (cases h; done) | (split at h <;> first | (cases h; rfl) | (cases h; done))))⟩
instance : F2 dMod false := ⟨fun x y r h => by unfold dMod dI2 at h; split at h <;> first | (cases h; rfl) | (cases h; done) | (split at h <;> first | (cases h; rfl) | (cases h; done) | (split at h <;> first | (cases h; rfl) | (cases h; done) | (split at h <;> first | (cases h; rfl) | (cases h; done))))⟩
instance : F2 dPow false := ⟨fun x y r h => by unfold dPow dI2 at h; split at h <;> first | (cases h; rfl) | (cases h; done) | (split at h <;> first | (cases h; rfl) | (cases h; done) | (split at h <;> first | (cases h; rfl) | (cases h; done) | (split at h <;> first | (cases h; rfl) | (cases h; done))))⟩
theorem map_fl {α : Type} {g : α → D} {o : Option α} {b : Bool} {r : Bool × D} (h : o.map (fun x => (b, g x)) = some r) : r.1 = b := by
  cases o with
  | none => cases h
  | some x => cases h; rfl
instance : F2 dIx false := ⟨fun x y r h => by
  unfold dIx at h
  split at h
  · split at h
    · exact map_fl (g := fun d => d) h
    · cases h
  · unfold dIxS at h
    split at h
    · split at h
      · exact map_fl (g := fun d => d) h
      · exact map_fl (g := fun d => d) h
      · exact map_fl (g := D.int) h
      · cases h
    · cases h⟩
instance : FN dLen false := ⟨fun x r h => by unfold dLen dLenS at h; split at h <;> first | (cases h; rfl) | (cases h; done) | (split at h <;> first | (cases h; rfl) | (cases h; done) | (split at h <;> first | (cases h; rfl) | (cases h; done) | (split at h <;> first | (cases h; rfl) | (cases h; done))))⟩
instance : FN dAbs false := ⟨fun x r h => by unfold dAbs at h; split at h <;> first | (cases h; rfl) | (cases h; done) | (split at h <;> first | (cases h; rfl) | (cases h; done) | (split at h <;> first | (cases h; rfl) | (cases h; done) | (split at h <;> first | (cases h; rfl) | (cases h; done))))⟩
instance : FN dInt false := ⟨fun x r h => by unfold dInt at h; split at h <;> first | (cases h; rfl) | (cases h; done) | (split at h <;> first | (cases h; rfl) | (cases h; done) | (split at h <;> first | (cases h; rfl) | (cases h; done) | (split at h <;> first | (cases h; rfl) | (cases h; done))))⟩
instance : FN dMax2 false := ⟨fun x r h => by unfold dMax2 at h; split at h <;> first | (cases h; rfl) | (cases h; done) | (split at h <;> first | (cases h; rfl) | (cases h; done) | (split at h <;> first | (cases h; rfl) | (cases h; done) | (split at h <;> first | (cases h; rfl) | (cases h; done))))⟩
instance : FN dMin2 false := ⟨fun x r h => by unfold dMin2 at h; split at h <;> first | (cases h; rfl) | (cases h; done) | (split at h <;> first | (cases h; rfl) | (cases h; done) | (split at h <;> first | (cases h; rfl) | (cases h; done) | (split at h <;> first | (cases h; rfl) | (cases h; done))))⟩
instance : FN dTuple false := ⟨fun x r h => by unfold dTuple at h; split at h <;> first | (cases h; rfl) | (cases h; done) | (split at h <;> first | (cases h; rfl) | (cases h; done) | (split at h <;> first | (cases h; rfl) | (cases h; done) | (split at h <;> first | (cases h; rfl) | (cases h; done))))⟩
instance : FN dSum false := ⟨fun x r h => by unfold dSum at h; split at h; · exact map_fl (g := fun ns : List Int => .int ns.sum) h
                                             · cases h⟩
theorem fn_A {k : List D → Option (Bool × D)} {b : Bool} [F : FN k b] {x : List D} {r : Bool × D} (h : k x = some r) : r.1 = b := F.f x r h
instance : FN dSumA false := ⟨fun x r h => by
  unfold dSumA at h
  split at h
  · exact map_fl (g := fun ns : List Int => .int ns.sum) h
  · exact fn_A h⟩
section
variable {f g : EF} {ρ ρ1 ρ2 ρ3 : En} {x y v : D} {p q : Pk} {a a' : Option D} {u : Unit}
end
def sFz (ps : List Pk) (s : SF) : SF := fun ρ => s (frzAll ps ρ)
theorem ds_fz {X : Cx} {c : Cc} {pr : Bool} {E : XK} {st : Stmt} {f : SF} (ps : List Pk) (h : DS X c pr E st f) : DS X c pr E st (sFz ps f) :=
  ⟨ps_imp h.ps fun T σ H ⟨ρ, Z, B, r0, q⟩ => ⟨frzAll ps ρ, Z, B, frzPs ps ρ r0, q⟩⟩
def SV (s : SF) (ρ ρ' : En) : Prop := s ρ = .ok (.nx, ρ')
def nN (c : Bool) : M Bool := .ok (!c)
@[simp] theorem nN_def (c : Bool) : nN c = .ok (!c) := rfl
def LP {σ ω : Type} (I : σ → En → Prop) (Q : ω → Fl × En → Prop) : Fw σ ω → Fl × En → Prop
  | .nx s, (.nx, ρ) => I s ρ
  | .nx s, (.ct, ρ) => I s ρ
  | .bk s, (.bk, ρ) => I s ρ
  | .rt w, (.rt fr d, ρ) => Q w (.rt fr d, ρ)
  | _, _ => False
def LS (I : En → Prop) : Fl × En → Prop
  | (.nx, ρ) => I ρ
  | (.ct, ρ) => I ρ
  | _ => False
def NX (I : En → Prop) : Fl × En → Prop
  | (.nx, ρ) => I ρ
  | _ => False
def JP {σ ω : Type} (I : σ → En → Prop) (Q : ω → Fl × En → Prop) : σ ⊕ ω → Fl × En → Prop
  | .inl s, (.nx, ρ) => I s ρ
  | .inr w, (.rt fr d, ρ) => Q w (.rt fr d, ρ)
  | _, _ => False
def SQ (t : SF) (P : Fl × En → Prop) : Fl × En → Prop
  | (.nx, ρ) => (t ρ).wq P
  | q => P q
def nOr (c : Bool) (B : M Bool) : M Bool := cond c (.ok true) B
@[simp] theorem nOr_t (B : M Bool) : nOr true B = .ok true := rfl
@[simp] theorem nOr_f (B : M Bool) : nOr false B = B := rfl
theorem cT {α : Type} {a b : M α} {r : M α} (h : cond true a b = r) : a = r := h
theorem cF {α : Type} {a b : M α} {r : M α} (h : cond false a b = r) : b = r := h
theorem asT2_inv' {x : D} {p : D × D} (h : asT2 x = .ok p) : x = .tup [p.1, p.2] := asT2_inv h
section
variable {s t a b : SF} {ρ ρ1 ρ2 : En} {P : Fl × En → Prop} {f g : EF} {fr c : Bool} {x y v w : D} {i : Nat} {tg : Tg} {ta : TF} {fi : IF}
theorem w_fz {ps : List Pk} (h : (s (frzAll ps ρ)).wq P) : (sFz ps s ρ).wq P := h
theorem w_fzs {ps : List Pk} (h : (sSeq s t (frzAll ps ρ)).wq P) : (sSeq (sFz ps s) t ρ).wq P := h
theorem w_nx (h : SV s ρ ρ1) (k : (t ρ1).wq P) : (sSeq s t ρ).wq P := by
  rw [r_seq, h, O.bind_ok]; exact k
theorem w_fin (h : SV s ρ ρ1) (k : P (.nx, ρ1)) : (s ρ).wq P := by
  rw [h]; exact ⟨_, rfl, k⟩
theorem sv_set (h : EV f ρ fr x ρ1) : SV (sSet i f) ρ (ρ1.set i (some (fr, x))) := by
  unfold SV; rw [r_set, h]; rfl
theorem w_setX (h : EX f ρ x ρ1) (k : ∀ fr, (t (ρ1.set i (some (fr, x)))).wq P) : (sSeq (sSet i f) t ρ).wq P := by
  obtain ⟨fr, h⟩ := h
  exact w_nx (sv_set h) (k fr)
theorem w_setXf (h : EX f ρ x ρ1) (k : ∀ fr, P (.nx, ρ1.set i (some (fr, x)))) : (sSet i f ρ).wq P := by
  obtain ⟨fr, h⟩ := h
  exact w_fin (sv_set h) (k fr)
theorem sv_exp (h : EX f ρ x ρ1) : SV (sExp f) ρ ρ1 := by
  obtain ⟨fr, h⟩ := h
  unfold SV; rw [r_exp, h]; rfl
theorem sv_nil : SV sNil ρ ρ := rfl
theorem w_par {r : List (Nat × EF)} (h : (parF r ρ).wq fun ρ' => (t ρ').wq P) : (sSeq (sPar r) t ρ).wq P := by
  obtain ⟨ρ', e, q⟩ := O.wq_ex h
  rw [r_seq, r_par, e, O.bind_ok, O.bind_ok]; exact q
theorem w_parf {r : List (Nat × EF)} (h : (parF r ρ).wq fun ρ' => P (.nx, ρ')) : (sPar r ρ).wq P := by
  obtain ⟨ρ', e, q⟩ := O.wq_ex h
  rw [r_par, e, O.bind_ok]; exact ⟨_, rfl, q⟩
theorem w_par1 {r : List (Nat × EF)} {Q : En → Prop} (h : EV f ρ fr x ρ1) (k : (parF r ρ1).wq fun ρ2 => Q (ρ2.set i (some (fr, x)))) : (parF ((i, f) :: r) ρ).wq Q := by
  obtain ⟨ρ', e, q⟩ := O.wq_ex k
  rw [r_par1, h, O.bind_ok]; dsimp only; rw [e]; exact ⟨_, rfl, q⟩
theorem w_par0 {Q : En → Prop} (h : Q ρ) : (parF [] ρ).wq Q := ⟨_, rfl, h⟩
theorem w_ret (h : EV f ρ fr x ρ1) (k : P (.rt fr x, ρ1)) : (sRet f ρ).wq P := by
  rw [r_ret, h]; exact ⟨_, rfl, k⟩
theorem w_if (h : TV ta ρ c ρ1) (ha : c = true → (a ρ1).wq P) (hb : c = false → (b ρ1).wq P) : (sIf ta a b ρ).wq P := by
  rw [r_sIf, h, O.bind_ok]; dsimp only
  cases c with
  | true => rw [if_pos rfl]; exact ha rfl
  | false => rw [if_neg Bool.false_ne_true]; exact hb rfl
theorem w_ifD (h : TV ta ρ c ρ1) (ha : c = true → (a ρ1).wq (SQ t P)) (hb : c = false → (b ρ1).wq (SQ t P)) : (sSeq (sIf ta a b) t ρ).wq P := by
  rw [r_seq, r_sIf, h, O.bind_ok]; dsimp only
  cases c with
  | true =>
    rw [if_pos rfl]
    obtain ⟨⟨fl, ρ'⟩, e, q⟩ := O.wq_ex (ha rfl)
    rw [e, O.bind_ok]
    cases fl with
    | nx => exact q
    | _ => exact ⟨_, rfl, q⟩
  | false =>
    rw [if_neg Bool.false_ne_true]
    obtain ⟨⟨fl, ρ'⟩, e, q⟩ := O.wq_ex (hb rfl)
    rw [e, O.bind_ok]
    cases fl with
    | nx => exact q
    | _ => exact ⟨_, rfl, q⟩
theorem tv_noN {b : Bool} (h : TV ta ρ b ρ1) (e : nN b = .ok c) : TV (tNo ta) ρ c ρ1 := by
  cases e; exact tv_no h
theorem tv_orN {tb : TF} {b : Bool} {B : M Bool} (h : TV ta ρ b ρ1) (e : nOr b B = .ok c) (hb : ∀ c, B = .ok c → TV tb ρ1 c ρ1) : TV (tOr' ta tb) ρ c ρ1 :=
  tv_or (B := B) h (by cases b <;> exact e) hb
theorem ev_ifN {A B : M D} (fr : Bool) (h : TV ta ρ c ρ1) (e : cond c A B = .ok v) (ha : ∀ v, A = .ok v → EV f ρ1 fr v ρ1) (hb : ∀ v, B = .ok v → EV g ρ1 fr v ρ1) : EV (fIf ta f g) ρ fr v ρ1 :=
  ev_if (A := A) (B := B) h (by cases c <;> exact e) ha hb
theorem w_ifJ {σ : Type} {A B : M σ} {s : σ} (I : σ → En → Prop) (h : TV ta ρ c ρ1) (e : cond c A B = .ok s) (ha : ∀ s, A = .ok s → (a ρ1).wq (NX (I s))) (hb : ∀ s, B = .ok s → (b ρ1).wq (NX (I s))) (k : ∀ ρ2, I s ρ2 → (t ρ2).wq P) : (sSeq (sIf ta a b) t ρ).wq P := by
  rw [r_seq, r_sIf, h, O.bind_ok]; dsimp only
  cases c with
  | true =>
    rw [if_pos rfl]
    obtain ⟨⟨fl, ρ'⟩, e', q⟩ := O.wq_ex (ha s e)
    rw [e', O.bind_ok]
    cases fl with
    | nx => exact k _ q
    | _ => exact q.elim
  | false =>
    rw [if_neg Bool.false_ne_true]
    obtain ⟨⟨fl, ρ'⟩, e', q⟩ := O.wq_ex (hb s e)
    rw [e', O.bind_ok]
    cases fl with
    | nx => exact k _ q
    | _ => exact q.elim
end
end U
namespace U
set_option autoImplicit false
open PySem PySem.Spec PyProof.Rows L2
abbrev fo (o : Option D) : Option (Bool × D) := o.map (Prod.mk false)
section
variable {σ ω : Type} {t b T : SF} {ρ ρ1 : En} {P : Fl × En → Prop} {tg : Tg} {fi : IF} {ds : List D}
theorem for_core {body : σ → D → M (Fw σ ω)} (I : σ → En → Prop) (Q : ω → Fl × En → Prop) (hb : ∀ s d ρ r, I s ρ → body s d = .ok r → ∃ ρ2, tg d ρ = some ρ2 ∧ (b ρ2).wq (LP I Q r)) :
    ∀ (ds : List D) (s : σ) (ρ : En) (z : σ ⊕ ω), I s ρ → forN body ds s = .ok z → (forL tg b ds ρ).wq (JP I Q z)
  | [], s, ρ, z, h0, e => by cases e; exact ⟨_, rfl, h0⟩
  | d :: ds, s, ρ, z, h0, e => by
    obtain ⟨r, e1, e⟩ := M.inv e
    obtain ⟨ρ2, h1, h2⟩ := hb s d ρ r h0 e1
    unfold forL
    rw [h1]
    refine O.wq_bind (O.wq_mono h2 fun q hq => ?_)
    obtain ⟨fl, ρ3⟩ := q
    cases r with
    | nx s' =>
      cases fl with
      | nx => exact for_core I Q hb ds s' ρ3 z hq e
      | ct => exact for_core I Q hb ds s' ρ3 z hq e
      | _ => exact hq.elim
    | bk s' =>
      cases fl with
      | bk => cases e; exact ⟨_, rfl, hq⟩
      | _ => exact hq.elim
    | rt w =>
      cases fl with
      | rt fr d => cases e; exact ⟨_, rfl, hq⟩
      | _ => exact hq.elim
theorem w_for {body : σ → D → M (Fw σ ω)} {s0 : σ} {z : σ ⊕ ω} (I : σ → En → Prop) (Q : ω → Fl × En → Prop) (hi : IV fi ρ ds ρ1) (e : forN body ds s0 = .ok z) (h0 : I s0 ρ1)
    (hb : ∀ s d ρ r, I s ρ → body s d = .ok r → ∃ ρ2, tg d ρ = some ρ2 ∧ (b ρ2).wq (LP I Q r)) (kr : ∀ w fr d ρ2, z = .inr w → Q w (.rt fr d, ρ2) → P (.rt fr d, ρ2)) (k : ∀ s ρ2, z = .inl s → I s ρ2 → (T ρ2).wq P) : (sSeq (sFor fi tg b) T ρ).wq P := by
  rw [r_seq, r_for, hi, O.bind_ok]
  obtain ⟨⟨fl, ρ'⟩, e', q⟩ := O.wq_ex (for_core I Q hb ds s0 ρ1 z h0 e)
  dsimp only
  rw [e', O.bind_ok]
  cases z with
  | inl s =>
    cases fl with
    | nx => exact k s _ rfl q
    | _ => exact q.elim
  | inr w =>
    cases fl with
    | rt fr d => exact ⟨_, rfl, kr w _ _ _ rfl q⟩
    | _ => exact q.elim
theorem forS_core {body : σ → D → M σ} (I : σ → En → Prop) (hb : ∀ s d ρ s', I s ρ → body s d = .ok s' → ∃ ρ2, tg d ρ = some ρ2 ∧ (b ρ2).wq (LS (I s'))) :
    ∀ (ds : List D) (s : σ) (ρ : En) (z : σ), I s ρ → forS body ds s = .ok z → ∃ ρ', forL tg b ds ρ = .ok (.nx, ρ') ∧ I z ρ'
  | [], s, ρ, z, h0, e => by cases e; exact ⟨ρ, rfl, h0⟩
  | d :: ds, s, ρ, z, h0, e => by
    obtain ⟨r, e1, e⟩ := M.inv e
    obtain ⟨ρ2, h1, h2⟩ := hb s d ρ r h0 e1
    obtain ⟨⟨fl, ρ3⟩, e', q⟩ := O.wq_ex h2
    unfold forL
    rw [h1]; dsimp only; rw [e', O.bind_ok]
    cases fl with
    | nx => exact forS_core I hb ds r ρ3 z q e
    | ct => exact forS_core I hb ds r ρ3 z q e
    | _ => exact q.elim
theorem w_forS {body : σ → D → M σ} {s0 z : σ} (I : σ → En → Prop) (hi : IV fi ρ ds ρ1) (e : forS body ds s0 = .ok z) (h0 : I s0 ρ1)
    (hb : ∀ s d ρ s', I s ρ → body s d = .ok s' → ∃ ρ2, tg d ρ = some ρ2 ∧ (b ρ2).wq (LS (I s'))) (k : ∀ ρ2, I z ρ2 → (T ρ2).wq P) : (sSeq (sFor fi tg b) T ρ).wq P := by
  obtain ⟨ρ', e', q⟩ := forS_core I hb ds s0 ρ1 z h0 e
  rw [r_seq, r_for, hi, O.bind_ok]; dsimp only; rw [e', O.bind_ok]
  exact k _ q
theorem w_forSf {body : σ → D → M σ} {s0 z : σ} (I : σ → En → Prop) (hi : IV fi ρ ds ρ1) (e : forS body ds s0 = .ok z) (h0 : I s0 ρ1)
    (hb : ∀ s d ρ s', I s ρ → body s d = .ok s' → ∃ ρ2, tg d ρ = some ρ2 ∧ (b ρ2).wq (LS (I s'))) (k : ∀ ρ2, I z ρ2 → P (.nx, ρ2)) : (sFor fi tg b ρ).wq P := by
  obtain ⟨ρ', e', q⟩ := forS_core I hb ds s0 ρ1 z h0 e
  rw [r_for, hi, O.bind_ok]; dsimp only; rw [e']
  exact ⟨_, rfl, k _ q⟩
theorem whS_core {ta : TF} {nt : σ → M Bool} {body : σ → M σ} (I : σ → En → Prop) (ht : ∀ s ρ c, I s ρ → nt s = .ok c → TV ta ρ c ρ) (hb : ∀ s ρ s', I s ρ → body s = .ok s' → (b ρ).wq (LS (I s'))) :
    ∀ (n : Nat) (s : σ) (ρ : En) (z : σ), I s ρ → whS nt body n s = .ok z → ∃ ρ', whileL ta b n ρ = .ok (.nx, ρ') ∧ I z ρ'
  | 0, s, ρ, z, h0, e => by cases e
  | n + 1, s, ρ, z, h0, e => by
    obtain ⟨c, e1, e⟩ := M.inv e
    have h1 := ht s ρ c h0 e1
    unfold whileL
    rw [h1, O.bind_ok]; dsimp only
    cases c with
    | false => rw [if_neg Bool.false_ne_true] at e ⊢; cases e; exact ⟨ρ, rfl, h0⟩
    | true =>
      rw [if_pos rfl] at e ⊢
      obtain ⟨r, e2, e⟩ := M.inv e
      obtain ⟨⟨fl, ρ3⟩, e', q⟩ := O.wq_ex (hb s ρ r h0 e2)
      rw [e', O.bind_ok]
      cases fl with
      | nx => exact whS_core I ht hb n r ρ3 z q e
      | ct => exact whS_core I ht hb n r ρ3 z q e
      | _ => exact q.elim
theorem w_whS {ta : TF} {n : Nat} {nt : σ → M Bool} {body : σ → M σ} {s0 z : σ} (I : σ → En → Prop) (e : whS nt body n s0 = .ok z) (h0 : I s0 ρ) (ht : ∀ s ρ c, I s ρ → nt s = .ok c → TV ta ρ c ρ)
    (hb : ∀ s ρ s', I s ρ → body s = .ok s' → (b ρ).wq (LS (I s'))) (k : ∀ ρ2, I z ρ2 → (T ρ2).wq P) : (sSeq (sWhile n ta b) T ρ).wq P := by
  obtain ⟨ρ', e', q⟩ := whS_core I ht hb n s0 ρ z h0 e
  rw [r_seq]
  unfold sWhile
  rw [e', O.bind_ok]
  exact k _ q
end
section
variable {b : SF} {ds : List D} {np nn : Nat}
def FQ (fr : Bool) (v : D) (q : Fl × En) : Prop := finF false (.ok q) = .ok (fr, v, [])
theorem run_fq {fr : Bool} {v : D} (hl : ds.length = np) (h : (b (slots0 false ds ++ List.replicate (nn - np) none)).wq (FQ fr v)) : runF np nn false b ds = .ok (fr, v, []) := by
  obtain ⟨q, e, hq⟩ := O.wq_ex h
  rw [r_run _ _ _ _ _ hl, e]; exact hq
end
end U
namespace U
set_option autoImplicit false
open PySem L2
theorem wr_of {fr : Bool} {v : D} {o : O (Bool × D × List D)} (h : o = .ok (fr, v, [])) : wr fr o = .ok v := by rw [h, wr_ok]
theorem wrIO_of {fr : Bool} {v : D} {l0 l : List D} {o : O (Bool × D × List D)} (h : o = .ok (fr, v, [.lst l])) : wrIO fr (.lst l0) o = .ok (v, .lst l) := by rw [h, wrIO_ok]
section
variable {α β σ ω : Type}
end
theorem lnN_ok {ds : List D} (h : ds.length ≤ 16777216) : lnN ds = .ok () := by unfold lnN; rw [if_pos h]
@[simp] theorem seqI_T (ds : List D) : seqI (.tup ds) = some ds := rfl
@[simp] theorem seqI_L (ds : List D) : seqI (.lst ds) = some ds := rfl
@[simp] theorem seqI_S (ns : List Int) : seqI (.scr ns) = some (ns.map .int) := rfl
@[simp] theorem seqI_D (ks vs : List D) : seqI (.dic ks vs) = some ks := rfl
theorem yes_of {g : FD} {n : D → M D} {ns : List Int} {fr : Bool} (hs : ∀ {x v : D}, n x = .ok v → g [x] = .ok (fr, v, [])) (h : n (.scr ns) = .ok (.bl true)) : Yes g ns := ⟨fr, [], hs h⟩
end U
namespace U
set_option autoImplicit false
open PySem L2
structure EK {α : Type} (e : α → D) : Prop where
  inj : ∀ a b, (e a).nk = (e b).nk → a = b
  kd : (∀ a, (e a).isTk = true) ∨ ∀ a, (e a).isLf = true
section
variable {α β : Type} [DecidableEq α]
def lk : List (α × β) → α → Option β
  | [], _ => none
  | p :: F, a => if p.1 = a then some p.2 else lk F a
def put : List (α × β) → α → β → List (α × β)
  | [], a, b => [(a, b)]
  | p :: F, a, b => if p.1 = a then (a, b) :: F else p :: put F a b
theorem lk_mem {F : List (α × β)} {a : α} {b : β} (h : lk F a = some b) : (a, b) ∈ F := by
  induction F with
  | nil => cases h
  | cons p F ih =>
    unfold lk at h
    split at h
    · rename_i e; cases h; subst e; exact List.mem_cons_self
    · exact List.mem_cons_of_mem _ (ih h)
theorem lk_of_mem {F : List (α × β)} (hn : (F.map (·.1)).Nodup) {p : α × β} (h : p ∈ F) : lk F p.1 = some p.2 := by
  induction F with
  | nil => cases h
  | cons q F ih =>
    rw [List.map_cons, List.nodup_cons] at hn
    unfold lk
    rcases List.mem_cons.mp h with rfl | h
    · rw [if_pos rfl]
    · rw [if_neg fun e => hn.1 (by rw [e]; exact List.mem_map_of_mem h)]
      exact ih hn.2 h
theorem lk_put (F : List (α × β)) (a : α) (b : β) (c : α) : lk (put F a b) c = if c = a then some b else lk F c := by
  induction F with
  | nil =>
    unfold put
    unfold lk
    by_cases e : c = a
    · rw [if_pos e, if_pos e.symm]
    · rw [if_neg e, if_neg fun k => e k.symm]; rfl
  | cons p F ih =>
    unfold put
    split
    · rename_i h
      by_cases e : c = a
      · rw [if_pos e]; unfold lk; rw [if_pos e.symm]
      · rw [if_neg e]; unfold lk; rw [if_neg fun k => e k.symm, if_neg fun k => e (by rw [← k, h])]
    · rename_i h
      by_cases e : c = a
      · rw [if_pos e] at ih ⊢; unfold lk; rw [if_neg (by rw [e]; exact h)]; exact ih
      · rw [if_neg e] at ih ⊢
        unfold lk
        split
        · rfl
        · exact ih
theorem put_keys (F : List (α × β)) (a : α) (b : β) (c : α) : c ∈ (put F a b).map (·.1) ↔ c ∈ F.map (·.1) ∨ c = a := by
  induction F with
  | nil => simp [put]
  | cons p F ih =>
    unfold put
    split
    · rename_i h
      rw [List.map_cons, List.map_cons, List.mem_cons, List.mem_cons, ← h]
      exact ⟨fun k => .inl k, fun k => k.elim id fun k => .inl k⟩
    · rw [List.map_cons, List.map_cons, List.mem_cons, List.mem_cons, ih, or_assoc]
theorem put_nodup {F : List (α × β)} (h : (F.map (·.1)).Nodup) (a : α) (b : β) : ((put F a b).map (·.1)).Nodup := by
  induction F with
  | nil => simp [put]
  | cons p F ih =>
    rw [List.map_cons, List.nodup_cons] at h
    unfold put
    split
    · rename_i e
      rw [List.map_cons, List.nodup_cons, ← e]
      exact h
    · rename_i e
      rw [List.map_cons, List.nodup_cons, put_keys]
      exact ⟨fun k => k.elim h.1 e, ih h.2⟩
variable {ek : α → D} {ev : β → D}
theorem EK.ne (E : EK ek) {a b : α} : ((ek a).nk = (ek b).nk) ↔ a = b := ⟨E.inj a b, fun h => by rw [h]⟩
theorem EK.dk (E : EK ek) (F : List (α × β)) (a : α) : dKd (F.map fun p => ek p.1) (ek a) = true := by
  unfold dKd
  rcases E.kd with k | k
  · rw [k a, show (F.map fun p => ek p.1).all D.isTk = true from List.all_eq_true.mpr fun x hx => by obtain ⟨p, _, rfl⟩ := List.mem_map.mp hx; exact k _]
    simp
  · rw [k a, show (F.map fun p => ek p.1).all D.isLf = true from List.all_eq_true.mpr fun x hx => by obtain ⟨p, _, rfl⟩ := List.mem_map.mp hx; exact k _]
    simp
theorem EK.look (E : EK ek) : ∀ (F : List (α × β)) (a : α), dLook (F.map fun p => ek p.1) (F.map fun p => ev p.2) (ek a) = (lk F a).map ev
  | [], a => rfl
  | p :: F, a => by
    rw [List.map_cons, List.map_cons]
    unfold dLook lk
    by_cases h : p.1 = a
    · rw [if_pos (E.ne.mpr h), if_pos h]; rfl
    · rw [if_neg fun k => h (E.ne.mp k), if_neg h]; exact E.look F a
end
end U
namespace U
set_option autoImplicit false
open PySem PySem.Spec PyProof.Rows L2
abbrev IsZ (h : Heap) (z TI TO : Addr) (f0 : Value) (f : Bool) : Prop :=
  h.get? z = some { cls := .type "zip", dict := none, data := .fields #[f0, .bool f, .bool false, .ref TI, .ref TO], slots := #[] }
structure Zst (h : Heap) (z TI TO i1 i2 a b : Addr) (i : Nat) : Prop where
  hz : ∃ f0 f, IsZ h z TI TO f0 f ∧ (f0 = .none ∨ ∃ T : Nat, f0 = rawInt T)
  ti : IsPair h TI (.ref i1) (.ref i2)
  to : ∃ x y, IsPair h TO x y
  h1 : h.IsTupleIter i1 a i
  h2 : h.IsTupleIter i2 b i
theorem Zst.keep {h h' : Heap} {z TI TO i1 i2 a b : Addr} {i : Nat} (Z : Zst h z TI TO i1 i2 a b i) (k : ∀ c ∈ [z, TI, TO, i1, i2], ∀ o, h.get? c = some o → h'.get? c = some o) : Zst h' z TI TO i1 i2 a b i := by
  obtain ⟨⟨f0, f, hz, hf⟩, ti, ⟨x, y, to⟩, h1, h2⟩ := Z
  exact ⟨⟨f0, f, k z (by simp) _ hz, hf⟩, k TI (by simp) _ ti, ⟨x, y, k TO (by simp) _ to⟩, h1.at fun o q => k i1 (by simp) o q, h2.at fun o q => k i2 (by simp) o q⟩
section
variable {prog : Program} {w : World} {A : Around} {E : Value → Shared → Prop} {s : Shared}
end
end U
namespace U
set_option autoImplicit false
open PySem PySem.Spec PyProof.Rows L2
section
variable {P : Program} {w : World} {K : PySem.W.Frag} {mg : Str → Option Value} {base : Heap} {CX : CXT} {c : Cc} {x : Str} {st : Stmt} {f : Addr} {fd : FuncData} {N ps : List Str} {k : Nat} {b : SF} {dvs : List V}
end
section
variable {X : Cx} {CX : CXT} {c : Cc} {E : XK} {x : Str} {st : Stmt} {qs : List Str} {k j : Nat} {g : FD} {p pos : Pos} {e : Expr} {es : List Expr} {ps : List Pk} {dvs : List V} {dds : List D}
end
end U
namespace U
set_option autoImplicit false
open PySem PySem.Spec PyProof.Rows L2
end U
namespace TL
set_option autoImplicit false
open PySem L2 U
section
variable {α β γ δ ζ η : Type}
@[reducible] def eT (e : α → D) (l : List α) : D := .tup (l.map e)
@[reducible] def eL (e : α → D) (l : List α) : D := .lst (l.map e)
@[reducible] def eP2 (a : α → D) (b : β → D) (p : α × β) : D := .tup [a p.1, b p.2]
def eO (e : α → D) : Option α → D
  | none => .non
  | some a => e a
@[reducible] def eZ (l : List Int) : D := .scr l
@[reducible] def jP (a : α → γ) (b : β → δ) (p : α × β) : γ × δ := (a p.1, b p.2)
@[reducible] def jU (_ : Unit) : Unit := ()
def letV (x : α) (f : α → β) : β := f x
end
section
variable {α β γ δ σ τ ω κ : Type}
theorem Mb {m : M α} {f : α → M β} {a : α} {r : M β} (h : m = .ok a) (k : f a = r) : m.bind f = r := by rw [h]; exact k
theorem Ml {e : α → γ} {c : β → δ} {m : M γ} {f : γ → M δ} {x : α} {b : α → β} (h : m = .ok (e x)) (k : ∀ y, y = x → f (e y) = .ok (c (b y))) : m.bind f = .ok (c (letV x b)) := by
  rw [h]; exact k x rfl
theorem Mc {c : Bool} {e : α → γ} {A B : M γ} {a b : α} (hA : c = true → A = .ok (e a)) (hB : c = false → B = .ok (e b)) : cond c A B = .ok (e (cond c a b)) := by
  cases c with
  | true => exact hA rfl
  | false => exact hB rfl
theorem Mor {c b : Bool} {m : M Bool} (h : c = false → m = .ok b) : nOr c m = .ok (c || b) := by
  cases c with
  | true => rfl
  | false => exact h rfl
def sumC (z : σ ⊕ ω) (f : σ → β) (g : ω → β) : β := match z with
  | .inl s => f s
  | .inr w => g w
def jF (j : σ → τ) (k : ω → κ) : Fw σ ω → Fw τ κ
  | .nx s => .nx (j s)
  | .bk s => .bk (j s)
  | .rt w => .rt (k w)
def jS (j : σ → τ) (k : ω → κ) : σ ⊕ ω → τ ⊕ κ
  | .inl s => .inl (j s)
  | .inr w => .inr (k w)
theorem MbN {j : σ → τ} {k : ω → κ} {c : β → δ} {m : M (τ ⊕ κ)} {f : τ ⊕ κ → M δ} {z : σ ⊕ ω} {a : σ → β} {b : ω → β} (h : m = .ok (jS j k z)) (hl : ∀ s, z = .inl s → f (.inl (j s)) = .ok (c (a s))) (hr : ∀ w, z = .inr w → f (.inr (k w)) = .ok (c (b w))) : m.bind f = .ok (c (sumC z a b)) := by
  rw [h]
  cases z with
  | inl s => exact hl s rfl
  | inr w => exact hr w rfl
def gFor (gb : σ → α → Prop) (vb : σ → α → σ) : List α → σ → Prop
  | [], _ => True
  | x :: l, s => gb s x ∧ gFor gb vb l (vb s x)
theorem tForS {j : σ → τ} {e : α → D} {nb : τ → D → M τ} {vb : σ → α → σ} {gb : σ → α → Prop} (hb : ∀ s x, gb s x → nb (j s) (e x) = .ok (j (vb s x))) : ∀ (l : List α) (s : σ), gFor gb vb l s → forS nb (l.map e) (j s) = .ok (j (l.foldl vb s))
  | [], s, _ => rfl
  | x :: l, s, h => by rw [List.map_cons, forS, hb s x h.1, M.bind_ok, List.foldl_cons]; exact tForS hb l _ h.2
def forNV (vb : σ → α → Fw σ ω) : List α → σ → σ ⊕ ω
  | [], s => .inl s
  | x :: l, s => match vb s x with
    | .nx s => forNV vb l s
    | .bk s => .inl s
    | .rt w => .inr w
def gForN (gb : σ → α → Prop) (vb : σ → α → Fw σ ω) : List α → σ → Prop
  | [], _ => True
  | x :: l, s => gb s x ∧ match vb s x with
    | .nx s => gForN gb vb l s
    | _ => True
theorem forNV_inv {gb : σ → α → Prop} {vb : σ → α → Fw σ ω} (I : σ → Prop) : ∀ {l : List α} {s : σ}, (∀ s, ∀ x ∈ l, I s → gb s x ∧ ∃ s', vb s x = .nx s' ∧ I s') → I s → gForN gb vb l s ∧ ∃ s', forNV vb l s = .inl s' ∧ I s'
  | [], s, _, h0 => ⟨trivial, s, rfl, h0⟩
  | x :: l, s, h, h0 => by
    obtain ⟨h1, s', h2, h3⟩ := h s x List.mem_cons_self h0
    have h4 := forNV_inv I (l := l) (s := s') (fun s y hy => h s y (List.mem_cons_of_mem _ hy)) h3
    unfold gForN forNV
    rw [h2]
    exact ⟨⟨h1, h4.1⟩, h4.2⟩
theorem tForN {j : σ → τ} {k : ω → κ} {e : α → D} {nb : τ → D → M (Fw τ κ)} {vb : σ → α → Fw σ ω} {gb : σ → α → Prop} (hb : ∀ s x, gb s x → nb (j s) (e x) = .ok (jF j k (vb s x))) : ∀ (l : List α) (s : σ), gForN gb vb l s → forN nb (l.map e) (j s) = .ok (jS j k (forNV vb l s))
  | [], s, _ => rfl
  | x :: l, s, h => by
    rw [List.map_cons, forN, hb s x h.1, M.bind_ok]
    unfold forNV
    have h2 := h.2
    cases q : vb s x with
    | nx s' => rw [q] at h2; exact tForN hb l _ h2
    | bk s' => rfl
    | rt w => rfl
def whSV (t : σ → Bool) (b : σ → σ) : Nat → σ → σ
  | 0, s => s
  | n + 1, s => cond (t s) (whSV t b n (b s)) s
def gWhS (t : σ → Bool) (b : σ → σ) (gt gb : σ → Prop) : Nat → σ → Prop
  | 0, _ => False
  | n + 1, s => gt s ∧ (t s = true → gb s ∧ gWhS t b gt gb n (b s))
theorem tWhS {j : σ → τ} {nt : τ → M Bool} {nb : τ → M τ} {t : σ → Bool} {b : σ → σ} {gt gb : σ → Prop} (ht : ∀ s, gt s → nt (j s) = .ok (t s)) (hb : ∀ s, gb s → nb (j s) = .ok (j (b s))) : ∀ (n : Nat) (s : σ), gWhS t b gt gb n s → whS nt nb n (j s) = .ok (j (whSV t b n s))
  | 0, s, h => h.elim
  | n + 1, s, h => by
    unfold gWhS at h
    unfold whS whSV
    rw [ht s h.1, M.bind_ok]
    cases q : t s with
    | true =>
      have h2 := h.2 q
      rw [if_pos rfl, hb s h2.1, M.bind_ok]
      exact tWhS ht hb n _ h2.2
    | false => rw [if_neg Bool.false_ne_true]; rfl
theorem tMap {e : α → D} {c : β → D} {nb : D → M D} {vb : α → β} {gb : α → Prop} (hb : ∀ x, gb x → nb (e x) = .ok (c (vb x))) : ∀ (l : List α), (∀ x ∈ l, gb x) → mapN nb (l.map e) = .ok ((l.map vb).map c)
  | [], _ => rfl
  | x :: l, h => by
    rw [List.map_cons, mapN, hb x (h x List.mem_cons_self), M.bind_ok, tMap hb l fun y hy => h y (List.mem_cons_of_mem _ hy), M.bind_ok, List.map_cons, List.map_cons]
theorem tFm {e : α → D} {c : β → D} {nb : D → M (Option D)} {vb : α → Option β} {gb : α → Prop} (hb : ∀ x, gb x → nb (e x) = .ok ((vb x).map c)) : ∀ (l : List α), (∀ x ∈ l, gb x) → fmN nb (l.map e) = .ok ((l.filterMap vb).map c)
  | [], _ => rfl
  | x :: l, h => by
    rw [List.map_cons, fmN, hb x (h x List.mem_cons_self), M.bind_ok, tFm hb l fun y hy => h y (List.mem_cons_of_mem _ hy), M.bind_ok, List.filterMap_cons]
    cases vb x with
    | none => rfl
    | some y => rfl
def mapIOV (vb : σ → α → β × σ) : List α → σ → List β × σ
  | [], s => ([], s)
  | x :: l, s => ((vb s x).1 :: (mapIOV vb l (vb s x).2).1, (mapIOV vb l (vb s x).2).2)
def gMapIO (gb : σ → α → Prop) (vb : σ → α → β × σ) : List α → σ → Prop
  | [], _ => True
  | x :: l, s => gb s x ∧ gMapIO gb vb l (vb s x).2
theorem tMapIO {j : σ → D} {e : α → D} {c : β → D} {nb : D → D → M (D × D)} {vb : σ → α → β × σ} {gb : σ → α → Prop} (hb : ∀ s x, gb s x → nb (j s) (e x) = .ok (jP c j (vb s x))) : ∀ (l : List α) (s : σ), gMapIO gb vb l s → mapIO nb (l.map e) (j s) = .ok (jP (List.map c) j (mapIOV vb l s))
  | [], s, _ => rfl
  | x :: l, s, h => by
    rw [List.map_cons, mapIO, hb s x h.1, M.bind_ok]
    dsimp only
    rw [tMapIO hb l _ h.2]
    rfl
theorem mapIOV_inv {gb : σ → α → Prop} {vb : σ → α → β × σ} (I : σ → Prop) (P : β → Prop) : ∀ {l : List α} {s : σ}, (∀ s, ∀ x ∈ l, I s → gb s x ∧ P (vb s x).1 ∧ I (vb s x).2) → I s → gMapIO gb vb l s ∧ (mapIOV vb l s).1.length = l.length ∧ (∀ y ∈ (mapIOV vb l s).1, P y) ∧ I (mapIOV vb l s).2
  | [], s, _, h0 => ⟨trivial, rfl, (fun _ h => nomatch h), h0⟩
  | x :: l, s, h, h0 => by
    obtain ⟨h1, h2, h3⟩ := h s x List.mem_cons_self h0
    obtain ⟨k1, k2, k3, k4⟩ := mapIOV_inv I P (l := l) (fun s y hy => h s y (List.mem_cons_of_mem _ hy)) h3
    refine ⟨⟨h1, k1⟩, by unfold mapIOV; rw [List.length_cons, List.length_cons, k2], fun y hy => ?_, k4⟩
    unfold mapIOV at hy
    rcases List.mem_cons.mp hy with rfl | hy
    · exact h2
    · exact k3 y hy
end
def mulG (a b : Int) : Prop := bitsOf a + bitsOf b ≤ 1000000
def divG (b : Int) : Prop := b ≠ 0 ∧ b.natAbs.log2 < 9000
def absV (a : Int) : Int := if a < 0 then -a else a
def upsV (a b : Int) : List Int := (List.range (b - a).toNat).map fun (i : Nat) => a + (i : Nat)
theorem t_add (a b : Int) : q2 dAdd (.int a) (.int b) = .ok (.int (a + b)) := rfl
theorem t_sub (a b : Int) : q2 dSub (.int a) (.int b) = .ok (.int (a - b)) := rfl
theorem t_mul {a b : Int} (h : mulG a b) : q2 dMul (.int a) (.int b) = .ok (.int (a * b)) := by rw [q2_def, v_mul a b h]; rfl
theorem t_fdiv {a b : Int} (h : divG b) : q2 dFdiv (.int a) (.int b) = .ok (.int (a.fdiv b)) := by rw [q2_def, v_fdiv a b h.1 h.2]; rfl
theorem t_mod {a b : Int} (h : b ≠ 0) : q2 dMod (.int a) (.int b) = .ok (.int (a.fmod b)) := by rw [q2_def, v_mod a b h]; rfl
theorem t_abs (a : Int) : qN dAbs [.int a] = .ok (.int (absV a)) := rfl
theorem t_int (a : Int) : qN dInt [.int a] = .ok (.int a) := rfl
theorem t_max2 (a b : Int) : qN dMax2 [.int a, .int b] = .ok (.int (max a b)) := by
  rw [qN_def, v_max, oV_some]
  congr 2
  split <;> omega
theorem t_min2 (a b : Int) : qN dMin2 [.int a, .int b] = .ok (.int (min a b)) := by
  rw [qN_def, v_min, oV_some]
  congr 2
  split <;> omega
theorem t_lt (a b : Int) : b2 dLt (.int a) (.int b) = .ok (decide (a < b)) := rfl
theorem t_le (a b : Int) : b2 dLe (.int a) (.int b) = .ok (decide (a ≤ b)) := rfl
theorem t_gt (a b : Int) : b2 dGt (.int a) (.int b) = .ok (decide (b < a)) := rfl
theorem t_ge (a b : Int) : b2 dGe (.int a) (.int b) = .ok (decide (b ≤ a)) := rfl
theorem t_asB (b : Bool) : asB (.bl b) = .ok b := rfl
theorem t_asI (a : Int) : asI (.int a) = .ok a := rfl
theorem t_not (b : Bool) : nN b = .ok (!b) := rfl
structure Eqv {α : Type} (n : Nat) (e : α → D) : Prop where
  ok : ∀ a, D.okN n (e a) = true
  eq : ∀ a b, eqD (e a) (e b) = true ↔ a = b
mutual
theorem okN_mono : ∀ (d : D) {m n : Nat}, m ≤ n → D.okN m d = true → D.okN n d = true
  | .non, _, _, _, _ => by unfold D.okN; rfl
  | .bl _, _, _, _, _ => by unfold D.okN; rfl
  | .int _, _, _, _, _ => by unfold D.okN; rfl
  | .str _, _, _, _, h => by unfold D.okN at h ⊢; exact h
  | .tup ds, 0, _, _, h => by unfold D.okN at h; cases h
  | .tup ds, m + 1, 0, hm, _ => by omega
  | .tup ds, m + 1, n + 1, hm, h => by
    unfold D.okN at h ⊢
    exact okN_monoL ds (by omega) h
  | .lst ds, 0, _, _, h => by unfold D.okN at h; cases h
  | .lst ds, m + 1, 0, hm, _ => by omega
  | .lst ds, m + 1, n + 1, hm, h => by
    unfold D.okN at h ⊢
    exact okN_monoL ds (by omega) h
  | .dic _ _, _, _, _, h => by unfold D.okN at h; cases h
  | .fn _, _, _, _, h => by unfold D.okN at h; cases h
  | .exc _ _, _, _, _, h => by unfold D.okN at h; cases h
  | .scr _, _, _, _, h => by unfold D.okN at h; cases h
theorem okN_monoL : ∀ (ds : List D) {m n : Nat}, m ≤ n → ds.all (D.okN m) = true → ds.all (D.okN n) = true
  | [], _, _, _, _ => rfl
  | d :: ds, m, n, hm, h => by
    rw [List.all_cons, Bool.and_eq_true] at h ⊢
    exact ⟨okN_mono d hm h.1, okN_monoL ds hm h.2⟩
end
def eqV {α : Type} [DecidableEq α] (a b : α) : Bool := decide (a = b)
section
variable {α β γ δ : Type} {n m k k' : Nat}
theorem Eqv.good {e : α → D} (q : Eqv n e) (hn : n ≤ 60) (a : α) : D.good (e a) = true := okN_mono _ hn (q.ok a)
theorem qI : Eqv 0 D.int := ⟨fun a => rfl, fun a b => by unfold eqD; exact beq_iff_eq⟩
variable [DecidableEq α]
theorem Eqv.dec {e : α → D} (q : Eqv n e) (a b : α) : eqD (e a) (e b) = eqV a b := by
  unfold eqV
  rw [Bool.eq_iff_iff, q.eq, decide_eq_true_eq]
theorem t_eq {e : α → D} (q : Eqv n e) (hn : n ≤ 60) (a b : α) : b2 dEq (e a) (e b) = .ok (eqV a b) := by
  rw [b2_def]; unfold dEq; rw [q.good hn, q.good hn]
  show oM (some (eqD (e a) (e b))) = _
  rw [q.dec]; rfl
theorem t_ne {e : α → D} (q : Eqv n e) (hn : n ≤ 60) (a b : α) : b2 dNe (e a) (e b) = .ok (!eqV a b) := by
  rw [b2_def]; unfold dNe; rw [q.good hn, q.good hn]
  show oM (some (!eqD (e a) (e b))) = _
  rw [q.dec]; rfl
end
section
variable {α β γ δ : Type}
end
end TL
namespace TL
set_option autoImplicit false
open PySem L2 U
section
variable {α β γ δ ζ : Type} {n m k k' : Nat}
def NF (e : α → D) : Prop := ∀ a, (e a).isNon = some false
theorem t_isN {e : α → D} (h : NF e) (x : Option α) : b2 dIsN (eO e x) .non = .ok x.isNone := by
  rw [b2_def]; unfold dIsN
  cases x with
  | none => rfl
  | some a => show oM (e a).isNon = _; rw [h a]; rfl
def lenG (n : Nat) : Prop := n ≤ 16777216
theorem t_addL {e : α → D} {l r : List α} (h : lenG (l.length + r.length)) : q2 dAdd (eL e l) (eL e r) = .ok (eL e (l ++ r)) := by
  rw [q2_def]; unfold dAdd; dsimp only
  rw [if_pos (by rw [List.length_map, List.length_map]; exact h), ← List.map_append]; rfl
def repV (l : List α) (k : Int) : List α := (List.replicate k.toNat l).flatten
theorem map_repV (e : α → β) (l : List α) (k : Int) : (repV l k).map e = repV (l.map e) k := by
  unfold repV
  rw [List.map_flatten, List.map_replicate]
def repTG (n : Nat) (k : Int) : Prop := n ≠ 0 ∧ 2 ≤ k ∧ k ≤ 1000 ∧ n ≤ 1000
theorem t_repT {e : α → D} {l : List α} {k : Int} (h : repTG l.length k) : q2 dMul (eT e l) (.int k) = .ok (eT e (repV l k)) := by
  rw [q2_def]; unfold dMul; dsimp only
  rw [if_pos ⟨fun e => h.1 (List.length_eq_zero_iff.mpr (List.map_eq_nil_iff.mp e)), h.2.1, h.2.2.1, by rw [List.length_map]; exact h.2.2.2⟩]
  show M.ok (D.tup (repV (l.map e) k)) = _
  rw [← map_repV]
def inR (n : Nat) (i : Int) : Prop := (ixN n i).isSome = true
def ixV [Inhabited α] (l : List α) (i : Int) : α := (atI l i).getD default
theorem ixV_nn [Inhabited α] (l : List α) {i : Int} (h0 : 0 ≤ i) : ixV l i = l.getD i.toNat default := by
  unfold ixV atI ixN
  rw [if_pos h0]
  split
  · rw [Option.bind_some, List.getD_eq_getElem?_getD]
  · rw [List.getD_eq_getElem?_getD, List.getElem?_eq_none (by omega)]; rfl
theorem inR_nn {n : Nat} {i : Int} (h0 : 0 ≤ i) (h : i < n) : inR n i := by
  unfold inR ixN
  rw [if_pos h0, if_pos h]; rfl
theorem ixN_lt {n : Nat} {i : Int} {j : Nat} (h : ixN n i = some j) : j < n := by
  unfold ixN at h
  split at h
  · split at h
    · cases h; omega
    · cases h
  · split at h
    · cases h; omega
    · cases h
theorem atI_map [Inhabited α] (e : α → β) (l : List α) {i : Int} (h : inR l.length i) : atI (l.map e) i = some (e (ixV l i)) := by
  unfold inR at h
  unfold ixV atI
  rw [List.length_map]
  cases q : ixN l.length i with
  | none => rw [q] at h; cases h
  | some j =>
    have hj := ixN_lt q
    rw [Option.bind_some, Option.bind_some, List.getElem?_map, List.getElem?_eq_getElem hj]; rfl
theorem t_ixT [Inhabited α] {e : α → D} {l : List α} {i : Int} (h : inR l.length i) : q2 dIx (eT e l) (.int i) = .ok (e (ixV l i)) := by
  rw [q2_def]; unfold dIx; dsimp only; unfold dIxS; dsimp only
  rw [atI_map e l h]; rfl
theorem t_ixP20 (a : α → D) (b : β → D) (p : α × β) : q2 dIx (eP2 a b p) (.int 0) = .ok (a p.1) := by rw [q2_def]; exact congrArg oV (v_ixT0 _ _)
theorem t_ixP21 (a : α → D) (b : β → D) (p : α × β) : q2 dIx (eP2 a b p) (.int 1) = .ok (b p.2) := by rw [q2_def]; exact congrArg oV (v_ixT1 _ _ _)
theorem t_lenT (e : α → D) (l : List α) : qN dLen [eT e l] = .ok (.int (l.length : Nat)) := by rw [qN_def, v_lenT, List.length_map]; rfl
theorem t_lenL (e : α → D) (l : List α) : qN dLen [eL e l] = .ok (.int (l.length : Nat)) := by rw [qN_def, v_lenL, List.length_map]; rfl
theorem t_lenZ (l : List Int) : qN dLen [eZ l] = .ok (.int (l.length : Nat)) := rfl
theorem t_tupL (e : α → D) (l : List α) : qN dTuple [eL e l] = .ok (eT e l) := rfl
def cutV (l : List α) (lo hi : Option Int) : List α := (l.drop (HT.sIx l.length 0 lo)).take (HT.sIx l.length l.length hi - HT.sIx l.length 0 lo)
theorem cut_map (e : α → D) (l : List α) (lo hi : Option Int) : cutD (l.map e) lo hi = (cutV l lo hi).map e := by
  unfold cutD cutV
  rw [List.length_map, List.map_take, List.map_drop]
theorem t_slL (e : α → D) (l : List α) (lo hi : Option Int) : q1 (dSl lo hi) (eL e l) = .ok (eL e (cutV l lo hi)) := by
  show M.ok (D.lst (cutD (l.map e) lo hi)) = _
  rw [cut_map]
theorem cutV_fr (l : List α) {i : Int} (h : 0 ≤ i) : cutV l (some i) none = l.drop i.toNat := by
  unfold cutV HT.sIx
  dsimp only
  rw [if_neg (by omega)]
  by_cases h2 : i.toNat ≤ l.length
  · rw [Nat.min_eq_left h2, List.take_of_length_le (by rw [List.length_drop]; omega)]
  · rw [Nat.min_eq_right (by omega), List.drop_of_length_le (Nat.le_refl _), List.drop_of_length_le (by omega), List.take_nil]
theorem cutV_to (l : List α) {i : Int} (h : 0 ≤ i) : cutV l none (some i) = l.take i.toNat := by
  unfold cutV HT.sIx
  dsimp only
  rw [if_neg (by omega), List.drop_zero, Nat.sub_zero]
  by_cases h2 : i.toNat ≤ l.length
  · rw [Nat.min_eq_left h2]
  · rw [Nat.min_eq_right (by omega), List.take_of_length_le (Nat.le_refl _), List.take_of_length_le (by omega)]
theorem rgD_ups (a b : Int) : rgD a 1 (b - a).toNat = (upsV a b).map .int := by
  unfold rgD upsV
  rw [List.map_map]
  exact List.map_congr_left fun i _ => by simp
theorem upsV_ups {b : Int} : upsV 0 b = ups b.toNat := by
  unfold upsV ups
  rw [Int.sub_zero]
  exact List.map_congr_left fun i _ => by simp
theorem rgD_ups0 (b : Int) : rgD 0 1 b.toNat = (ups b.toNat).map .int := by
  have := rgD_ups 0 b
  rw [upsV_ups, Int.sub_zero] at this
  exact this
def rgG (b : Int) : Prop := b.natAbs < 4611686018427387904
theorem t_rg1 {b : Int} (h : rgG b) : oM (rg1 [.int b]) = .ok ((ups b.toNat).map .int) := by
  unfold rg1 small62
  dsimp only
  unfold rgG at h
  rw [if_pos (decide_eq_true h), rgD_ups0]; rfl
def enV (i : Nat) : List α → List (Int × α)
  | [] => []
  | d :: ds => ((i : Nat), d) :: enV (i + 1) ds
theorem enD_map (e : α → D) : ∀ (l : List α) (i : Nat), enD i (l.map e) = (enV i l).map (eP2 .int e)
  | [], _ => rfl
  | x :: l, i => by rw [List.map_cons, enD, enD_map e l (i + 1)]; rfl
theorem enV_zip : ∀ (l : List α) (i : Nat), enV i l = ((List.range' i l.length).map fun (j : Nat) => (j : Int)).zip l
  | [], _ => rfl
  | x :: l, i => by
    rw [enV, enV_zip l (i + 1), List.length_cons, List.range'_succ, List.map_cons, List.zip_cons_cons]
theorem enV_ups (l : List α) : enV 0 l = (ups l.length).zip l := by
  rw [enV_zip, ← List.range_eq_range']; rfl
theorem mem_enV {l : List α} {i : Nat} {p : Int × α} (h : p ∈ enV i l) : (i : Int) ≤ p.1 ∧ p.1 < i + l.length ∧ l[(p.1 - i).toNat]? = some p.2 := by
  induction l generalizing i with
  | nil => cases h
  | cons x l ih =>
    rcases List.mem_cons.mp h with rfl | h
    · simp; omega
    · obtain ⟨h1, h2, h3⟩ := ih h
      refine ⟨by omega, by rw [List.length_cons]; omega, ?_⟩
      rw [show (p.1 - (i : Int)).toNat = (p.1 - ((i + 1 : Nat) : Int)).toNat + 1 by omega, List.getElem?_cons_succ]
      exact h3
theorem t_enL (e : α → D) (l : List α) : enN (eL e l) = .ok ((enV 0 l).map (eP2 .int e)) := by rw [← enD_map]; rfl
theorem t_seqT (e : α → D) (l : List α) : oM (seqI (eT e l)) = .ok (l.map e) := rfl
theorem t_seqL (e : α → D) (l : List α) : oM (seqI (eL e l)) = .ok (l.map e) := rfl
theorem t_ln {e : α → D} {l : List α} (h : lenG l.length) : lnN (l.map e) = .ok () := lnN_ok (by rw [List.length_map]; exact h)
def appG (n : Nat) : Prop := n < 16777216
theorem t_app {e : α → D} {l : List α} {x : α} (h : appG l.length) : mutN mApp (eL e l) [e x] = .ok (D.non, eL e (l ++ [x])) := by
  rw [mutN_lst]; unfold mApp; dsimp only
  unfold appG at h
  rw [List.length_map, if_pos h]; simp
theorem t_sumL (l : List Int) : qN dSumA [eL .int l] = .ok (.int l.sum) := by
  rw [qN_def]
  show oV ((intsD (l.map .int)).map _) = _
  rw [intsD_of]; rfl
end
end TL
namespace U
set_option autoImplicit false
open PySem L2
section
variable {many : Int} {rows : List (List Int)}
def mapOf (many : Int) (rows : List (List Int)) (run : List Int) : List Int := (ups many.toNat).map (goes rows run)
end
theorem pl_int (n : Nat) (i : Int) : D.pl n (.int i) = true := by cases n <;> rfl
theorem pl_iT (r : List Int) : D.pl 39 (iT r) = true := by
  show (r.map D.int).all (D.pl 38) = true
  rw [List.all_eq_true]
  intro x hx
  obtain ⟨i, _, rfl⟩ := List.mem_map.mp hx
  exact pl_int _ i
@[simp] theorem same_iT (r : List Int) : lawSame 40 [iT r, iT r] = .ok (false, .bl true, []) := same_ok 39 _ (pl_iT r)
@[simp] theorem same_int (i : Int) : lawSame 40 [.int i, .int i] = .ok (false, .bl true, []) := same_ok 39 _ (pl_int 39 i)
end U
namespace U
set_option autoImplicit false
open PySem L2
abbrev fz (o : Option D) : Option (Bool × D) := o.map (Prod.mk false)
theorem pl_tup (n : Nat) (ds : List D) (h : ∀ d ∈ ds, D.pl n d = true) : D.pl (n + 1) (.tup ds) = true := List.all_eq_true.mpr h
end U
namespace H
set_option autoImplicit false
open PySem L2 U
def b_law_box : SF :=
    (sSeq (sSet 2 (op2 dAdd (.val (op2 dMul (.val (fC (.int 28019))) (.var 1))) (.val (fC (.int 7703)))))
    (sSeq (sIf (tOp2 dLt (.var 1) (.val (opN dLen [(.var 0)])))
    (sSet 2 (opN dAbs [(.val (opN dInt [(.val (op2 dIx (.var 0) (.var 1)))]))]))
    (sIf (tOp2 dGt (.val (opN dLen [(.var 0)])) (.val (fC (.int 0))))
    (sSet 2 (op2 dAdd (.var 2) (.val (op2 dMul (.val (op2 dMod (.val (opN dInt [(.val (opN dAbs [(.val (opN dInt [(.val (op2 dIx (.var 0) (.val (op2 dMod (.val (opN dInt [(.var 1)])) (.val (opN dLen [(.var 0)]))))))]))]))])) (.val (fC (.int 2147483563))))) (.val (fC (.int 97813)))))))
    sNil))
    (sSeq (sSet 3 (fIf (tOp2 dGe (.var 2) (.val (op2 dPow (.val (fC (.int 10))) (.val (fC (.int 18)))))) (fVar 2) (fC (.int 0))))
    (sRet (fLst [(fVar 3), (op2 dAdd (.val (op2 dMod (.val (opN dInt [(.val (op2 dAdd (.val (op2 dMul (.val (op2 dMod (.val (opN dInt [(.var 2)])) (.val (fC (.int 2147483563))))) (.val (fC (.int 54250003))))) (.val (op2 dMul (.val (fC (.int 7703))) (.var 1)))))])) (.val (fC (.int 2147483563))))) (.val (fC (.int 1))))])))))
def d_law_box : FD := runF 2 4 false b_law_box
def b_law_take : SF :=
    (sSeq (sIf (tOp2 dGt (.val (op2 dIx (.var 0) (.val (fC (.int 0))))) (.val (fC (.int 0))))
    (sSeq (sSet 3 (op2 dMod (.val (opN dInt [(.val (op2 dIx (.var 0) (.val (fC (.int 0)))))])) (.var 1)))
    (sSeq (sIx 0 (fC (.int 0)) (op2 dFdiv (.val (op2 dIx (.var 0) (.val (fC (.int 0))))) (.var 1)))
    (sRet (fMv 3))))
    sNil)
    (sSeq (sSet 2 (op2 dMod (.val (opN dInt [(.val (op2 dAdd (.val (op2 dMul (.val (op2 dIx (.var 0) (.val (fC (.int 1))))) (.val (fC (.int 39373))))) (.val (fC (.int 211)))))])) (.val (fC (.int 2147483647)))))
    (sSeq (sIx 0 (fC (.int 1)) (op2 dAdd (.val (op2 dMod (.val (opN dInt [(.val (op2 dAdd (.val (op2 dMul (.var 2) (.val (fC (.int 40692))))) (.val (fC (.int 97)))))])) (.val (fC (.int 2147483563))))) (.val (fC (.int 1)))))
    (sRet (op2 dMod (.val (opN dInt [(.val (op2 dFdiv (.val (op2 dAdd (.val (op2 dMul (.var 2) (.val (fC (.int 2147483629))))) (.val (op2 dIx (.var 0) (.val (fC (.int 1))))))) (.val (fC (.int 8263)))))])) (.var 1))))))
def d_law_take : FD := runF 2 4 true b_law_take
def b_law_pick : SF :=
    (sRet (op2 dIx (.var 1) (.val (fCallIO d_law_take 0 [(.val (opN dLen [(.var 1)]))]))))
def d_law_pick : FD := runF 2 2 true b_law_pick
def b_law_same (dn : FD) : SF :=
    (sSeq (sIf (tOf (.val (op1 (dIsi "tuple") (.var 1))))
    (sSeq (sIf (tOr' (tNo (tOf (.val (op1 (dIsi "tuple") (.var 0))))) (tOp2 dNe (.val (opN dLen [(.var 0)])) (.val (opN dLen [(.var 1)]))))
    (sRet (fC (.bl false)))
    sNil)
    (sSeq (sFor (fZip (fVar 0) (fVar 1)) (gT [(gN 2), (gN 3)])
    (sIf (tNo (tOf (.val (fCall dn [(.var 2), (.var 3)]))))
    (sRet (fC (.bl false)))
    sNil))
    (sRet (fC (.bl true)))))
    sNil)
    (sSeq (sIf (tOp2 dIsN (.var 1) (.val (fC .non)))
    (sRet (op2 (blO dIsN) (.var 0) (.val (fC .non))))
    sNil)
    (sSeq (sIf (tOr' (tOp2 dIsB (.var 1) (.val (fC (.bl true)))) (tOp2 dIsB (.var 1) (.val (fC (.bl false)))))
    (sRet (fAnd (.val (op1 (dIsi "bool") (.var 0))) (op2 (blO dEq) (.var 0) (.var 1))))
    sNil)
    (sSeq (sIf (tOf (.val (op1 (dIsi "int") (.var 1))))
    (sRet (fAnd (.val (op1 (dIsi "int") (.var 0))) (fAnd (.val (fNot (.val (op1 (dIsi "bool") (.var 0))))) (op2 (blO dEq) (.var 0) (.var 1)))))
    sNil)
    (sRet (fAnd (.val (op1 (dIsi "str") (.var 0))) (fAnd (.val (op1 (dIsi "str") (.var 1))) (op2 (blO dEq) (.var 0) (.var 1)))))))))
def d_law_same : Nat → FD
  | 0 => fun _ => .bad
  | n + 1 => runF 2 4 false (b_law_same (d_law_same n))
def b_law_settings_1 : SF :=
    (sExp (fMut mApp 3 [(opN dTuple [(.val (fLc [15] (fIt (fVar 2)) (gN 15) (tAll []) (fCallIO d_law_pick 0 [(.val (fLst [(fC .non), (fCallIO d_law_take 0 [(.var 15)]), (fCallIO d_law_take 0 [(.var 15)])]))])))])]))
end H
namespace H
set_option autoImplicit false
open PySem L2 U
theorem q_take : d_law_take = lawTake := rfl
theorem q_pick : d_law_pick = lawPick := rfl
theorem q_same (n : Nat) : d_law_same n = lawSame n := by
  induction n with
  | zero => rfl
  | succ n ih => unfold d_law_same lawSame; rw [ih]; rfl
def lev (m : Nat) : Nat → List (List Int)
  | 0 => [[]]
  | t + 1 => (lev m t).flatMap fun row => ((ups m).filter fun one => !decide (one ∈ row)).map fun one => row ++ [one]
def rowsF (m : Nat) : Nat → List (List Int)
  | 0 => [[]]
  | t + 1 => rowsF m t ++ lev m (t + 1)
end H
namespace H
set_option autoImplicit false
open PySem L2 U
def plain1 (many : Int) (rows : List (List Int)) (run : List Int) (d : Int) : Bool := decide (d ∈ run) || decide (mapOf many rows (d :: (run ++ [d])) = mapOf many rows (run ++ [d]))
def plainB (many : Int) (rows : List (List Int)) : Bool := (rowsF rows.length (rows.length - 1)).all fun run => (ups rows.length).all fun d => plain1 many rows run d
section
variable {many : Int} {rows : List (List Int)}
end
end H
namespace H
set_option autoImplicit false
open PySem L2 U
def oD : Option Int → D
  | none => .non
  | some i => .int i
def pD (p : List (Option Int)) : D := .tup (p.map oD)
def setF : List (Option Int) → List Int → List Int
  | p :: ps, b :: bs => p.getD b :: setF ps bs
  | _, _ => []
theorem len_le_of_sub {α : Type} [DecidableEq α] : ∀ {l l' : List α}, l.Nodup → (∀ x ∈ l, x ∈ l') → l.length ≤ l'.length
  | [], l', _, _ => Nat.zero_le _
  | x :: l, l', h, hs => by
    have h' := List.nodup_cons.mp h
    have hx := hs x List.mem_cons_self
    have := len_le_of_sub (l := l) (l' := l'.erase x) h'.2 fun y hy => (List.mem_erase_of_ne fun e => h'.1 (by rw [← e]; exact hy)).mpr (hs y (List.mem_cons_of_mem _ hy))
    rw [List.length_erase_of_mem hx] at this
    have : 0 < l'.length := List.length_pos_of_mem hx
    rw [List.length_cons]
    omega
def BdOk (f : Nat) (b : List Int) : Prop := b.length = f ∧ ∀ z ∈ b, 0 ≤ z ∧ z < 3
end H
namespace H
set_option autoImplicit false
open PySem L2 U
abbrev Q (es : List D) (dd : Int) (s2 s3 s4 s5 s6 s7 s8 s9 s10 s11 s12 s13 s14 s15 : Option (Bool × D)) : En :=
  [some (true, .lst es), some (false, .int dd), s2, s3, s4, s5, s6, s7, s8, s9, s10, s11, s12, s13, s14, s15]
def PtOk (f : Nat) (p : List (Option Int)) : Prop := p.length = f ∧ ∀ x ∈ p, ∀ i, x = some i → 0 ≤ i ∧ i < 3
end H
namespace H
set_option autoImplicit false
open PySem L2 U
def Clo (ps : List (List (Option Int))) (bs : List (List Int)) : Prop := ∀ b ∈ bs, ∀ p ∈ ps, setF p b ∈ bs
def tabOf (ps : List (List (Option Int))) (bs : List (List Int)) : List (List Int) := ps.map fun p => bs.map fun b => ((bs.idxOf (setF p b) : Nat) : Int)
end H
namespace H
set_option autoImplicit false
open PySem L2 U
def SetSys (ps : List (List (Option Int))) (bs : List (List Int)) (f : Nat) : Prop := f ≤ 3 ∧ (∀ p ∈ ps, PtOk f p) ∧ bs.Nodup ∧ (∀ b ∈ bs, BdOk f b) ∧ Clo ps bs ∧ bs ≠ []
theorem parts_of : ∀ {l : List D}, (∀ x ∈ l, ∃ o : Option Int, x = oD o ∧ ∀ i, o = some i → 0 ≤ i ∧ i < 3) → ∃ p : List (Option Int), l = p.map oD ∧ ∀ x ∈ p, ∀ i, x = some i → 0 ≤ i ∧ i < 3
  | [], _ => ⟨[], rfl, fun _ h => (List.not_mem_nil h).elim⟩
  | x :: l, h => by
    obtain ⟨v, e, h1⟩ := h x List.mem_cons_self
    obtain ⟨r, e2, h3⟩ := parts_of (l := l) fun y hy => h y (List.mem_cons_of_mem _ hy)
    refine ⟨v :: r, by rw [e, e2]; rfl, fun z hz => ?_⟩
    rcases List.mem_cons.mp hz with q | q
    · rw [q]; exact h1
    · exact h3 z q
theorem part_ok (dd : Int) (s4 s5 s6 s7 s8 s9 s10 s11 s12 s13 s14 : Option (Bool × D)) (s15 : Option D) (fr : Bool) (sz : List Int) (hsz : ∀ z ∈ sz, 2 ≤ z ∧ z < 4) (hl : sz.length ≤ 3) (es : List D) (hb : BxI es) (ps : List (List (Option Int))) (hps : ps.length ≤ 1000) :
    ∃ (es' : List D) (p : List (Option Int)), b_law_settings_1 (Q es dd (some (fr, .lst (sz.map .int))) (some (true, .lst (ps.map pD))) s4 s5 s6 s7 s8 s9 s10 s11 s12 s13 s14 (fz s15)) = .ok (.nx, Q es' dd (some (false, .lst (sz.map .int))) (some (true, .lst ((ps ++ [p]).map pD))) s4 s5 s6 s7 s8 s9 s10 s11 s12 s13 s14 (fz s15)) ∧ BxI es' ∧ PtOk sz.length p := by
  have hfi : fIt (fVar 2) (Q es dd (some (fr, .lst (sz.map .int))) (some (true, .lst (ps.map pD))) s4 s5 s6 s7 s8 s9 s10 s11 s12 s13 s14 (fz s15)) = .ok (sz.map .int, Q es dd (some (false, .lst (sz.map .int))) (some (true, .lst (ps.map pD))) s4 s5 s6 s7 s8 s9 s10 s11 s12 s13 s14 (fz s15)) := by simp
  obtain ⟨l, es', e1, e2, e3, e4⟩ := fLc_box (vs := [15]) (t := gN 15) (f := fCallIO d_law_pick 0 [(.val (fLst [(fC .non), (fCallIO d_law_take 0 [(.var 15)]), (fCallIO d_law_take 0 [(.var 15)])]))]) (ib := 0) (fun x => ∃ o : Option Int, x = oD o ∧ ∀ i, o = some i → 0 ≤ i ∧ i < 3) (by decide) hfi (by cases s15 <;> rfl) (by rw [List.length_map]; omega) rfl hb fun d hd es1 hb1 => by
    obtain ⟨z, hz, rfl⟩ := List.mem_map.mp hd
    have hz' := hsz z hz
    obtain ⟨v1, es2, t1, v10, v11, hb2, hi2⟩ := take_ok hb1.1 (many := z) (by omega) (by omega)
    obtain ⟨v2, es3, t2, v20, v21, hb3, hi3⟩ := take_ok hb2 (many := z) (by omega) (by omega)
    obtain ⟨v, es4, t3, hv, hb4, hi4⟩ := pickL_ok (xs := [.non, .int v1, .int v2]) hb3 (by simp) (by show 3 < 2 ^ 62; decide)
    have hvv : ∃ o : Option Int, v = oD o ∧ ∀ i, o = some i → 0 ≤ i ∧ i < 3 := by
      simp at hv
      rcases hv with h | h | h
      · exact ⟨none, h, fun i e => by cases e⟩
      · exact ⟨some v1, h, fun i e => by cases e; omega⟩
      · exact ⟨some v2, h, fun i e => by cases e; omega⟩
    have hvi : v.imm = true := by
      obtain ⟨o, e, _⟩ := hvv
      rw [e]; cases o <;> rfl
    refine ⟨_, false, v, Q es4 dd (some (false, .lst (sz.map .int))) (some (true, .lst (ps.map pD))) s4 s5 s6 s7 s8 s9 s10 s11 s12 s13 s14 (some (false, .int z)), es4, rfl, ?_, hvv, ⟨hb4, hi4⟩, rfl⟩
    simp [wipeE, q_take, q_pick, t1, t2, t3, hi2, hi3, hi4, hvi]
  obtain ⟨p, rfl, hp⟩ := parts_of e3
  refine ⟨es', p, ?_, e4, by simpa using e2, hp⟩
  have happ : mApp (ps.map pD) [pD p] = some (.non, (ps ++ [p]).map pD) := by
    unfold mApp
    dsimp only
    rw [if_pos (by rw [List.length_map]; omega), List.map_append]
    rfl
  have ei : opN dTuple [(.val (fLc [15] (fIt (fVar 2)) (gN 15) (tAll []) (fCallIO d_law_pick 0 [(.val (fLst [(fC .non), (fCallIO d_law_take 0 [(.var 15)]), (fCallIO d_law_take 0 [(.var 15)])]))])))] (Q es dd (some (fr, .lst (sz.map .int))) (some (true, .lst (ps.map pD))) s4 s5 s6 s7 s8 s9 s10 s11 s12 s13 s14 (fz s15)) = .ok (false, pD p, Q es' dd (some (false, .lst (sz.map .int))) (some (true, .lst (ps.map pD))) s4 s5 s6 s7 s8 s9 s10 s11 s12 s13 s14 (fz s15)) := by
    rw [r_opN, r_evs1, r_pv, e1]
    rfl
  unfold b_law_settings_1
  rw [r_exp, r_mut]
  simp only [List.getElem?_cons_succ, List.getElem?_cons_zero, r_evA1, ei, O.bind_ok, r_evA0, happ]
  rfl
end H
namespace H
set_option autoImplicit false
open PySem L2 U
end H
namespace H
set_option autoImplicit false
open PySem L2 U
def orders (n : Nat) : List (List Int) := (rowsF n n).filter fun r => decide (r.length = n)
def frontF (o lot : List Int) : List Int := lot ++ o.filter fun z => !decide (z ∈ lot)
end H
namespace H
set_option autoImplicit false
open PySem L2 U
def LotOk (n : Nat) (lot : List Int) : Prop := lot.Nodup ∧ lot.length ≤ 2 ∧ ∀ z ∈ lot, 0 ≤ z ∧ z < n
def fTab (n : Nat) (lots : List (List Int)) : List (List Int) := lots.map fun lot => (orders n).map fun o => (((orders n).idxOf (frontF o lot) : Nat) : Int)
theorem ups_nodup (n : Nat) : (ups n).Nodup := by
  unfold ups
  rw [List.Nodup, List.pairwise_map]
  exact List.nodup_range.imp fun h z => h (by omega)
end H
namespace H
set_option autoImplicit false
open PySem L2 U
inductive Drawn : Int → List (List Int) → Prop
  | set {ps : List (List (Option Int))} {bs : List (List Int)} {f : Nat} : SetSys ps bs f → Drawn bs.length (tabOf ps bs)
  | frn {n : Nat} {lots : List (List Int)} : n ≤ 4 → (∀ l ∈ lots, LotOk n l) → Drawn (orders n).length (fTab n lots)
  | pln {many : Int} {rows : List (List Int)} : SysOk many rows → plainB many rows = true → Drawn many rows
structure Drw (many : Int) (rows : List (List Int)) : Prop where
  d : Drawn many rows
  lo : 1 ≤ rows.length
  hi4 : rows.length ≤ 4
  sm : many ≤ 27
theorem Drw.hi {many : Int} {rows : List (List Int)} (h : Drw many rows) : rows.length ≤ 6 := Nat.le_trans h.hi4 (by decide)
end H
namespace H
set_option autoImplicit false
open PySem L2 U
abbrev W (s0 s1 s2 s3 s4 s5 s6 s7 s8 s9 s10 s11 s12 s13 s14 s15 s16 : Option (Bool × D)) : En := [s0, s1, s2, s3, s4, s5, s6, s7, s8, s9, s10, s11, s12, s13, s14, s15, s16]
end H
namespace H
set_option autoImplicit false
open PySem L2 U
end H
namespace H
set_option autoImplicit false
open PySem L2 U
end H
namespace H
set_option autoImplicit false
open PySem L2 U
end H
namespace H
set_option autoImplicit false
open PySem L2 U
end H
namespace H
set_option autoImplicit false
open PySem L2 U
def OnlyLast (many : Int) (rows : List (List Int)) : Prop := ∀ (d : Int) (run : List Int) (b : Int), 0 ≤ d → d < rows.length → RunOk rows run → 0 ≤ b → b < many → goes rows (d :: (run ++ [d])) b = goes rows (run ++ [d]) b
def runB (ps : List (List (Option Int))) (run : List Int) (b : List Int) : List Int := run.foldl (fun b d => setF (ps.getD d.toNat []) b) b
theorem set_get {ps : List (List (Option Int))} {bs : List (List Int)} {f : Nat} (h : SetSys ps bs f) : ∀ (run : List Int) (i : Nat) (hi : i < bs.length), (∀ d ∈ run, 0 ≤ d ∧ d < ps.length) → ∃ (j : Nat) (hj : j < bs.length), goes (tabOf ps bs) run i = j ∧ bs[j] = runB ps run bs[i]
  | [], i, hi, _ => ⟨i, hi, rfl, rfl⟩
  | d :: run, i, hi, hr => by
    obtain ⟨hf, hps, hn, hb, hc, hne⟩ := id h
    have hd := hr d List.mem_cons_self
    have hk : d.toNat < ps.length := by omega
    have hm : ps[d.toNat] ∈ ps := List.getElem_mem hk
    have hmem := hc bs[i] (List.getElem_mem hi) _ hm
    have hj := List.idxOf_lt_length_iff.mpr hmem
    have e1 : act (tabOf ps bs) d i = ((bs.idxOf (setF ps[d.toNat] bs[i]) : Nat) : Int) := by
      unfold act tabOf
      simp [hk, hi]
    obtain ⟨j, hj', k1, k2⟩ := set_get h run (bs.idxOf (setF ps[d.toNat] bs[i])) hj fun z hz => hr z (List.mem_cons_of_mem _ hz)
    refine ⟨j, hj', ?_, ?_⟩
    · show goes (tabOf ps bs) run (act (tabOf ps bs) d i) = j
      rw [e1]; exact k1
    · rw [k2, List.getElem_idxOf]
      show runB ps run (setF ps[d.toNat] bs[i]) = runB ps run (setF (ps.getD d.toNat []) bs[i])
      have : ps.getD d.toNat [] = ps[d.toNat] := by simp [hk]
      rw [this]
end H
namespace H
set_option autoImplicit false
open PySem L2 U
end H
namespace H
set_option autoImplicit false
open PySem L2 U
section
variable {many : Int} {rows : List (List Int)}
end
end H
namespace H
set_option autoImplicit false
open PySem L2 U
def thru (told row : List Int) : List Int := row.map fun b => told.getD b.toNat 0
def swal (many : Int) (rows : List (List Int)) (run : List Int) : List Int := (ups rows.length).filter fun d => decide (thru (U.mapOf many rows run) (rows.getD d.toNat []) = U.mapOf many rows run)
section
variable {many : Int} {rows : List (List Int)}
end
end H
namespace H
set_option autoImplicit false
open PySem L2 U
section
variable {many : Int} {rows : List (List Int)}
end
end H
namespace H
set_option autoImplicit false
open PySem L2 U
section
variable {vs : List Nat} {fi : IF} {t : Tg} {cs : TF} {f : EF} {ρ ρ1 : En} {ds : List D}
end
@[simp] theorem tupL_ok (r : List Int) : dTuple [.lst (r.map .int)] = some (false, iT r) := rfl
@[simp] theorem isiT (r : List Int) : dIsi "tuple" (iT r) = some (false, .bl true) := rfl
@[simp] theorem neL0 : dNe (.lst []) (.lst []) = some false := rfl
end H
namespace H
set_option autoImplicit false
open PySem L2 U
end H
namespace H
set_option autoImplicit false
open PySem L2 U
section
variable {many : Int} {rows : List (List Int)}
end
end H
namespace H
set_option autoImplicit false
open PySem L2 U
theorem ups_in {n : Nat} {b : Int} (h0 : 0 ≤ b) (h1 : b < n) : b ∈ ups n := by
  unfold ups
  exact List.mem_map.mpr ⟨b.toNat, List.mem_range.mpr (by omega), by omega⟩
section
variable {many : Int} {rows : List (List Int)}
end
end H
namespace H
set_option autoImplicit false
open PySem L2 U
abbrev kyP (F : List (List Int × List Int)) : List D := F.map fun p => iT p.2
abbrev vlP (F : List (List Int × List Int)) : List D := F.map fun p => iT p.1
abbrev prD (p : List Int × List Int) : D := .tup [iT p.1, iT p.2]
section
variable {many : Int} {rows : List (List Int)}
def Vld (many : Int) (rows : List (List Int)) (n : Nat) (F : List (List Int × List Int)) : Prop := ∀ p ∈ F, p.1.length ≤ n ∧ RunOk rows p.1 ∧ p.2 = U.mapOf many rows p.1
theorem Vld.more {n : Nat} {F : List (List Int × List Int)} (h : Vld many rows n F) : Vld many rows (n + 1) F := fun p hp => ⟨Nat.le_succ_of_le (h p hp).1, (h p hp).2⟩
end
end H
namespace H
set_option autoImplicit false
open PySem L2 U
abbrev N (many : Int) (rows : List (List Int)) (s : List (List Int × List Int) × List (List Int × List Int)) (a2 a4 a6 a7 a8 a9 : Option (Bool × D)) : En :=
  [some (false, sysD many rows), some (false, iT (ups many.toNat)), a2, some (true, .dic (kyP s.1) (vlP s.1)), a4, some (true, .lst (s.2.map prD)), a6, a7, a8, a9]
section
variable {many : Int} {rows : List (List Int)}
end
end H
namespace H
set_option autoImplicit false
open PySem L2 U
section
variable {many : Int} {rows : List (List Int)}
end
end H
namespace H
set_option autoImplicit false
open PySem L2 U
end H
namespace H
set_option autoImplicit false
open PySem L2 U
section
variable {many : Int} {rows : List (List Int)}
end
end H
namespace H
set_option autoImplicit false
open PySem L2 U
section
variable {many : Int} {rows : List (List Int)}
end
end H
namespace H
set_option autoImplicit false
open PySem L2 U
section
variable {many : Int} {rows : List (List Int)}
end
end H
namespace H
set_option autoImplicit false
open PySem L2 U
end H
namespace H
set_option autoImplicit false
open PySem L2 U
section
variable {many : Int} {rows : List (List Int)}
end
end H
namespace TL
set_option autoImplicit false
open PySem L2 U
section
variable {α β γ δ : Type} {n m k k' : Nat}
end
section
variable {α β : Type} [DecidableEq α]
variable {ek : α → D} {ev : β → D}
end
section
variable {α β γ δ : Type} {n m k k' : Nat}
def brV {α : Type} (dec : D → α) (z : α) : M D → α
  | .ok d => dec d
  | _ => z
theorem brV_ok {α : Type} {dec : D → α} {z : α} {e : α → D} (hd : ∀ a, dec (e a) = a) {m : M D} {a : α} (h : m = .ok (e a)) : brV dec z m = a := by rw [h]; exact hd a
end
end TL
namespace H
set_option autoImplicit false
open PySem L2 U
def n_law_box (x0 x1 : D) : M D := wr true (d_law_box [x0, x1])
theorem sim_law_box {x0 x1 v : D} (h : n_law_box x0 x1 = .ok v) : d_law_box [x0, x1] = .ok (true, v, []) := wr_inv h
def n_law_take (x0 x1 : D) : M (D × D) := wrIO false x0 (d_law_take [x0, x1])
theorem sim_law_take {x0 x1 : D} {w : D × D} (h : n_law_take x0 x1 = .ok w) : ∃ l0 l, x0 = .lst l0 ∧ w.2 = .lst l ∧ d_law_take [x0, x1] = .ok (false, w.1, [w.2]) := wrIO_inv h
def n_law_pick (x0 x1 : D) : M (D × D) := wrIO false x0 (d_law_pick [x0, x1])
theorem sim_law_pick {x0 x1 : D} {w : D × D} (h : n_law_pick x0 x1 = .ok w) : ∃ l0 l, x0 = .lst l0 ∧ w.2 = .lst l ∧ d_law_pick [x0, x1] = .ok (false, w.1, [w.2]) := wrIO_inv h
def n_law_same (n : Nat) (x0 x1 : D) : M D := wr false (d_law_same n [x0, x1])
theorem sim_law_same (n : Nat) {x0 x1 v : D} (h : n_law_same n x0 x1 = .ok v) : d_law_same n [x0, x1] = .ok (false, v, []) := wr_inv h
end H
namespace H
set_option autoImplicit false
open PySem L2 U
theorem nTake {es : List D} (hb : BxI es) {many : Int} (h0 : 0 < many) (h1 : many < 2 ^ 62) : ∃ (v : Int) (es' : List D), n_law_take (.lst es) (.int many) = .ok (.int v, .lst es') ∧ (0 ≤ v ∧ v < many) ∧ BxI es' := by
  obtain ⟨v, es', e, a, b, c, d⟩ := take_ok hb.1 h0 h1
  exact ⟨v, es', wrIO_of e, ⟨a, b⟩, ⟨c, d⟩⟩
theorem nPickL {es : List D} (hb : BxI es) {xs : List D} (h0 : xs ≠ []) (h1 : xs.length < 2 ^ 62) : ∃ (v : D) (es' : List D), n_law_pick (.lst es) (.lst xs) = .ok (v, .lst es') ∧ v ∈ xs ∧ BxI es' := by
  obtain ⟨v, es', e, a, c, d⟩ := pickL_ok hb.1 h0 h1
  exact ⟨v, es', wrIO_of e, a, ⟨c, d⟩⟩
theorem nBox (ns : List Int) {k : Int} (h0 : 0 ≤ k) (h1 : k < 1000) : ∃ es, n_law_box (.scr ns) (.int k) = .ok (.lst es) ∧ BxI es := by
  obtain ⟨es, e, c, d⟩ := box_ok ns k h0 h1
  exact ⟨es, wr_of e, ⟨c, d⟩⟩
theorem nSame {d : D} (h : D.pl 39 d = true) : n_law_same 40 d d = .ok (.bl true) := by
  have e := same_ok 39 d h
  rw [← q_same] at e
  exact wr_of e
end H
namespace H
set_option autoImplicit false
open PySem L2 U
section
variable {many : Int} {rows : List (List Int)}
end
end H
namespace H
set_option autoImplicit false
open PySem L2 U
section
variable {many : Int} {rows : List (List Int)}
end
end H
namespace H
set_option autoImplicit false
open PySem L2 U
section
variable {many : Int} {rows : List (List Int)}
end
def lotsF : Nat → List (List Int)
  | 0 => [[]]
  | n + 1 => lotsF n ++ (lotsF n).map fun lot => lot ++ [(n : Int)]
theorem lotsF_len : ∀ n, (lotsF n).length = 2 ^ n
  | 0 => rfl
  | n + 1 => by
    show (lotsF n ++ (lotsF n).map fun lot => lot ++ [(n : Int)]).length = _
    rw [List.length_append, List.length_map, lotsF_len n, Nat.pow_succ]
    omega
theorem ups_succ (n : Nat) : ups (n + 1) = ups n ++ [(n : Int)] := by
  unfold ups
  rw [List.range_succ, List.map_append]
  rfl
theorem filter_lots (p : Int → Bool) : ∀ n, (ups n).filter p ∈ lotsF n
  | 0 => List.mem_singleton.mpr rfl
  | n + 1 => by
    rw [ups_succ, List.filter_append]
    cases hp : p (n : Int) with
    | true =>
      have e : [(n : Int)].filter p = [(n : Int)] := by rw [List.filter_cons_of_pos hp]; rfl
      rw [e]
      exact List.mem_append_right _ (List.mem_map.mpr ⟨_, filter_lots p n, rfl⟩)
    | false =>
      have e : [(n : Int)].filter p = [] := by rw [List.filter_cons_of_neg (by rw [hp]; exact Bool.false_ne_true)]; rfl
      rw [e, List.append_nil]
      exact List.mem_append_left _ (filter_lots p n)
end H
namespace H
set_option autoImplicit false
open PySem L2 U
section
variable {g : Int → List Int}
end
section
variable {α : Type} {g : α → List Int}
end
section
variable {many : Int} {rows : List (List Int)}
def Flat (many : Int) (rows : List (List Int)) (f : List Int) : Prop := RunOk rows f ∧ swal many rows f = f
theorem flat_lots {f : List Int} (h : Flat many rows f) : f ∈ lotsF rows.length := by
  rw [← h.2]
  exact filter_lots _ _
structure FlI (many : Int) (rows : List (List Int)) (F : List (List Int)) (spot : Nat) : Prop where
  nd : F.Nodup
  fl : ∀ f ∈ F, Flat many rows f
  zero : swal many rows [] ∈ F
  le : spot ≤ F.length
  done : ∀ (i : Nat) (h : i < F.length), i < spot → ∀ d : Int, 0 ≤ d → d < rows.length → swal many rows (F[i] ++ [d]) ∈ F
theorem FlI.len {F : List (List Int)} {spot : Nat} (I : FlI many rows F spot) : F.length ≤ 2 ^ rows.length := by
  have := len_le_of_sub I.nd (l' := lotsF rows.length) fun f hf => flat_lots (I.fl f hf)
  rwa [lotsF_len] at this
end
end H
namespace H
set_option autoImplicit false
open PySem L2 U
section
variable {many : Int} {rows : List (List Int)}
end
section
variable {many : Int} {rows : List (List Int)}
end
end H
namespace H
set_option autoImplicit false
open PySem L2 U
end H
namespace H
set_option autoImplicit false
open PySem L2 U
end H
namespace H
set_option autoImplicit false
open PySem L2 U
def gv (l : List Int) (b : Int) : Int := l.getD b.toNat 0
section
variable {many : Int} {rows : List (List Int)} {look w : List Int}
end
end H
namespace H
set_option autoImplicit false
open PySem L2 U
section
variable {many : Int} {rows : List (List Int)}
end
section
variable {many : Int} {rows : List (List Int)}
end
end H
namespace H
set_option autoImplicit false
open PySem L2 U
end H
namespace H
set_option autoImplicit false
open PySem L2 U
section
variable {many : Int} {rows : List (List Int)} {look boards : List Int}
end
end H
namespace H
set_option autoImplicit false
open PySem L2 U
section
variable {many : Int} {rows : List (List Int)}
end
end H
namespace H
set_option autoImplicit false
open PySem L2 U
abbrev Ent := List Int × Int × Int
section
variable {many : Int} {rows : List (List Int)} {look : List Int} {one two : Int}
def Gq (rows : List (List Int)) (one two : Int) (w : List Int) : Int × Int := (goes rows w one, goes rows w two)
structure PQ (many : Int) (rows : List (List Int)) (look : List Int) (one two : Int) (t : Nat) (M : List (Int × Int)) (Lv : List Ent) : Prop where
  lv : ∀ e ∈ Lv, RunOk rows e.1 ∧ e.1.length = t ∧ e.2 = Gq rows one two e.1
  srt : Lv.Pairwise fun e f => e.1 < f.1
  alike : ∀ p ∈ M, gv look p.1 = gv look p.2
  all : ∀ w, RunOk rows w → w.length ≤ t → Gq rows one two w ∈ M
  sub : ∀ p ∈ M, ∃ w, RunOk rows w ∧ w.length ≤ t ∧ Gq rows one two w = p
  first : ∀ w, RunOk rows w → w.length = t → (∃ v, RunOk rows v ∧ v.length < t ∧ Gq rows one two v = Gq rows one two w) ∨ ∃ e ∈ Lv, e.2 = Gq rows one two w ∧ (e.1 = w ∨ e.1 < w)
  nd : M.Nodup
  lnd : (Lv.map (·.2)).Nodup
end
end H
namespace H
set_option autoImplicit false
open PySem L2 U
section
variable {many : Int} {rows : List (List Int)} {look : List Int} {one two : Int}
end
end H
namespace H
set_option autoImplicit false
open PySem L2 U
section
variable {many : Int} {rows : List (List Int)} {look : List Int} {one two : Int}
theorem PQ.zero (h : gv look one = gv look two) : PQ many rows look one two 0 [(one, two)] [([], one, two)] where
  lv := fun e he => by
    rw [List.mem_singleton.mp he]
    exact ⟨fun z hz => absurd hz List.not_mem_nil, rfl, rfl⟩
  srt := List.pairwise_singleton _ _
  alike := fun p hp => by rw [List.mem_singleton.mp hp]; exact h
  all := fun w _ hl => by
    have : w = [] := List.eq_nil_of_length_eq_zero (by omega)
    subst this
    exact List.mem_singleton.mpr rfl
  sub := fun p hp => ⟨[], fun z hz => absurd hz List.not_mem_nil, Nat.le_refl _, by rw [List.mem_singleton.mp hp]; rfl⟩
  first := fun w _ hl => by
    have : w = [] := List.eq_nil_of_length_eq_zero (by omega)
    subst this
    exact .inr ⟨_, List.mem_singleton.mpr rfl, rfl, .inl rfl⟩
  nd := List.nodup_cons.mpr ⟨List.not_mem_nil, List.nodup_nil⟩
  lnd := List.nodup_cons.mpr ⟨List.not_mem_nil, List.nodup_nil⟩
end
end H
namespace H
set_option autoImplicit false
open PySem L2 U
end H
namespace H
set_option autoImplicit false
open PySem L2 U
end H
namespace H
set_option autoImplicit false
open PySem L2 U
end H
namespace H
set_option autoImplicit false
open PySem L2 U
end H
namespace H
set_option autoImplicit false
open PySem L2 U
end H
namespace TL
set_option autoImplicit false
open PySem L2 U
@[reducible] def eBl (b : Bool) : Bool := b
section
variable {α β γ δ ζ : Type}
def dI : D → Int
  | .int i => i
  | _ => 0
def dL (f : D → α) : D → List α
  | .lst l => l.map f
  | _ => []
def dO (f : D → α) : D → Option α
  | .non => none
  | x => some (f x)
def Dc (e : α → D) (f : D → α) : Prop := ∀ a, f (e a) = a
theorem dcI : Dc D.int dI := fun _ => rfl
theorem map_dc {e : α → D} {f : D → α} (h : Dc e f) (l : List α) : (l.map e).map f = l := by
  rw [List.map_map]
  have : ∀ x ∈ l, (f ∘ e) x = x := fun x _ => h x
  rw [List.map_congr_left this, List.map_id']
theorem dcL {e : α → D} {f : D → α} (h : Dc e f) : Dc (eL e) (dL f) := fun l => map_dc h l
theorem br_r {e : α → D} {f : D → α} {z : α} (hd : Dc e f) {m : M D} (h : ∃ y, m = .ok (e y)) : m = .ok (e (brV f z m)) := by
  obtain ⟨y, h⟩ := h
  rw [brV_ok (e := e) hd h]; exact h
def brW (f : D → α) (z : α × List Int) : M (D × D) → α × List Int
  | .ok d => (f d.1, dL dI d.2)
  | _ => z
theorem brW_ok {e : α → D} {f : D → α} {z : α × List Int} (hd : Dc e f) {m : M (D × D)} {y : α × List Int} (h : m = .ok (jP e (eL .int) y)) : brW f z m = y := by
  rw [h]
  show (f (e y.1), dL dI (eL .int y.2)) = y
  rw [hd, dcL dcI]
theorem br_w {e : α → D} {f : D → α} {z : α × List Int} (hd : Dc e f) {m : M (D × D)} (h : ∃ y, m = .ok (jP e (eL .int) y)) : m = .ok (jP e (eL .int) (brW f z m)) := by
  obtain ⟨y, h⟩ := h
  rw [brW_ok hd h]; exact h
def Smp (k : Nat) (e : α → D) : Prop := ∀ n a, k ≤ n → D.pl n (e a) = true
theorem smI : Smp 0 D.int := fun n a _ => U.pl_int n a
theorem smP2 {k m : Nat} {a : α → D} {b : β → D} (h : Smp k a) (h2 : Smp m b) : Smp (max k m + 1) (eP2 a b) := fun n p hn => by
  match n, hn with
  | n + 1, hn =>
    exact U.pl_tup n _ fun x hx => by
      simp only [List.mem_cons, List.not_mem_nil, or_false] at hx
      rcases hx with rfl | rfl
      · exact h n _ (by omega)
      · exact h2 n _ (by omega)
theorem t_same {k : Nat} {e : α → D} (q : Smp k e) (hk : k ≤ 39) {a b : α} (h : a = b) : H.n_law_same 40 (e a) (e b) = .ok (.bl true) := by
  subst h
  exact H.nSame (q 39 a hk)
end
def Bo (b : List Int) : Prop := BxI (b.map .int)
theorem BxI_Bo {es : List D} (h : BxI es) : ∃ b, es = b.map D.int ∧ Bo b := by
  obtain ⟨⟨g, x, e, h1⟩, h2⟩ := h
  injection e with e
  subst e
  exact ⟨[g, x], rfl, ⟨g, x, rfl, h1⟩, h2⟩
end TL
namespace H
set_option autoImplicit false
open PySem L2 U
def v_law_box (x0 : (List Int)) (x1 : Int) : (List Int) := TL.brV (TL.dL TL.dI) default (n_law_box (TL.eZ x0) (D.int x1))
def g_law_box (x0 : (List Int)) (x1 : Int) : Prop := ∃ y : (List Int), n_law_box (TL.eZ x0) (D.int x1) = .ok ((TL.eL D.int) y)
theorem r_law_box (x0 : (List Int)) (x1 : Int) (hg : g_law_box x0 x1) : n_law_box (TL.eZ x0) (D.int x1) = .ok ((TL.eL D.int) (v_law_box x0 x1)) := TL.br_r (TL.dcL TL.dcI) hg
theorem y_law_box (x0 : (List Int)) (x1 : Int) {y : (List Int)} (h : n_law_box (TL.eZ x0) (D.int x1) = .ok ((TL.eL D.int) y)) : g_law_box x0 x1 ∧ v_law_box x0 x1 = y := ⟨⟨y, h⟩, TL.brV_ok (TL.dcL TL.dcI) h⟩
def v_law_take (x0 : (List Int)) (x1 : Int) : Int × List Int := TL.brW TL.dI default (n_law_take ((TL.eL D.int) x0) (D.int x1))
def g_law_take (x0 : (List Int)) (x1 : Int) : Prop := ∃ y : Int × List Int, n_law_take ((TL.eL D.int) x0) (D.int x1) = .ok (TL.jP D.int (TL.eL D.int) y)
theorem r_law_take (x0 : (List Int)) (x1 : Int) (hg : g_law_take x0 x1) : n_law_take ((TL.eL D.int) x0) (D.int x1) = .ok (TL.jP D.int (TL.eL D.int) (v_law_take x0 x1)) := TL.br_w TL.dcI hg
theorem y_law_take (x0 : (List Int)) (x1 : Int) {y : Int × List Int} (h : n_law_take ((TL.eL D.int) x0) (D.int x1) = .ok (TL.jP D.int (TL.eL D.int) y)) : g_law_take x0 x1 ∧ v_law_take x0 x1 = y := ⟨⟨y, h⟩, TL.brW_ok TL.dcI h⟩
end H
namespace H
set_option autoImplicit false
open PySem PySem.Spec PyProof.Rows L2 U
def n_common_part_b1 (s7 : D × D) : M Bool :=
  (b2 dGt s7.2 (D.int 0)).bind fun c8 => .ok c8
def n_common_part_b2 (s7 : D × D) : M (D × D) :=
  (q2 dMod s7.1 s7.2).bind fun t10 => 
  .ok (s7.2, t10)
def b_common_part : SF :=
    (sSeq (sPar [(0, (opN dAbs [(.var 0)])), (1, (opN dAbs [(.var 1)]))])
    (sSeq (sWhile 16777216 (tOp2 dGt (.var 1) (.val (fC (.int 0))))
    (sPar [(0, (fVar 1)), (1, (op2 dMod (.var 0) (.var 1)))]))
    (sRet (fMv 0))))
def d_common_part : FD := runF 2 2 false b_common_part
def n_common_part (one1 two2 : D) : M D :=
  (qN dAbs [one1]).bind fun t3 => (qN dAbs [two2]).bind fun t5 => 
  (whS n_common_part_b1 n_common_part_b2 16777216 (t3, t5)).bind fun s12 =>
  .ok s12.1
theorem sim_common_part {one1 two2 : D} {v : D} (h : n_common_part one1 two2 = .ok v) : d_common_part [one1, two2] = .ok (false, v, []) := by
  unfold n_common_part at h
  refine run_fq rfl ?_
  change O.wq (b_common_part [some (false, one1), some (false, two2)]) _
  unfold b_common_part
  change O.wq ((_ : SF) [_, _]) _
  obtain ⟨t3, e4, h⟩ := M.inv h
  obtain ⟨t5, e6, h⟩ := M.inv h
  refine w_par ?_
  refine w_par1 (ev_opN (pes1 (pe_v rfl) pes0) (pgs1 (pg_v rfl) pgs0) e4) ?_
  refine w_par1 (ev_opN (pes1 (pe_v rfl) pes0) (pgs1 (pg_v rfl) pgs0) e6) ?_
  refine w_par0 ?_
  change O.wq ((_ : SF) [_, _]) _
  obtain ⟨s12, e13, h⟩ := M.inv h
  refine w_whS (fun (s7 : D × D) ρ => ρ = [some (false, s7.1), some (false, s7.2)]) e13 rfl ?_ ?_ ?_
  · intro s7 ρ c hI h
    subst hI
    obtain ⟨c8, e9, h⟩ := M.inv h
    cases h
    exact (tv_op2 (pe_v rfl) (pe_e (vx ev_c)) (pg_v rfl) pg_e e9)
  · intro s7 ρ r hI h
    subst hI
    change O.wq ((_ : SF) [_, _]) _
    obtain ⟨t10, e11, h⟩ := M.inv h
    refine w_parf ?_
    refine w_par1 (ev_varF rfl) ?_
    refine w_par1 (ev_op2 (pe_v rfl) (pe_v rfl) (pg_v rfl) (pg_v rfl) e11) ?_
    refine w_par0 ?_
    replace h := M.ok.inj h
    subst h
    exact rfl
  · intro ρ hI
    subst hI
    change O.wq ((_ : SF) [_, _]) _
    replace h := M.ok.inj h
    subst h
    exact w_ret (ev_mvF rfl) rfl
def b_fraction_of : SF :=
    (sSeq (sIf (tOp2 dEq (.var 1) (.val (fC (.int 0))))
    sBad
    sNil)
    (sSeq (sSet 2 (fCall d_common_part [(.var 0), (.var 1)]))
    (sSeq (sIf (tOp2 dLt (.var 1) (.val (fC (.int 0))))
    (sSet 2 (op2 dSub (.val (fC (.int 0))) (.var 2)))
    sNil)
    (sRet (fTup [(op2 dFdiv (.var 0) (.var 2)), (op2 dFdiv (.var 1) (.var 2))])))))
def d_fraction_of : FD := runF 2 3 false b_fraction_of
def n_fraction_of (n1 d2 : D) : M D :=
  (b2 dEq d2 (D.int 0)).bind fun c3 => cond c3
    (.bad)
    ((n_common_part n1 d2).bind fun t5 => 
  (b2 dLt d2 (D.int 0)).bind fun c7 => (cond c7
    ((q2 dSub (D.int 0) t5).bind fun t11 => 
  .ok t11)
    (.ok t5) : M (D)).bind fun s13 =>
  (q2 dFdiv n1 s13).bind fun t15 => (q2 dFdiv d2 s13).bind fun t17 => .ok (D.tup [t15, t17]))
theorem sim_fraction_of {n1 d2 : D} {v : D} (h : n_fraction_of n1 d2 = .ok v) : d_fraction_of [n1, d2] = .ok (false, v, []) := by
  unfold n_fraction_of at h
  refine run_fq rfl ?_
  change O.wq (b_fraction_of [some (false, n1), some (false, d2), none]) _
  unfold b_fraction_of
  change O.wq ((_ : SF) [_, _, _]) _
  obtain ⟨c3, e4, h⟩ := M.inv h
  refine w_ifD (tv_op2 (pe_v rfl) (pe_e (vx ev_c)) (pg_v rfl) pg_e e4) (fun hc => ?_) (fun hc => ?_)
  · subst hc
    replace h := cT h
    change O.wq ((_ : SF) [_, _, _]) _
    exact nomatch h
  · subst hc
    replace h := cF h
    change O.wq ((_ : SF) [_, _, _]) _
    refine w_fin sv_nil ?_
    change O.wq ((_ : SF) [_, _, _]) _
    obtain ⟨t5, e6, h⟩ := M.inv h
    refine w_nx (sv_set (ev_call (pes1 (pe_v rfl) (pes1 (pe_v rfl) pes0)) (pgs1 (pg_v rfl) (pgs1 (pg_v rfl) pgs0)) (sim_common_part e6) rfl)) ?_
    change O.wq ((_ : SF) [_, _, _]) _
    obtain ⟨c7, e8, h⟩ := M.inv h
    obtain ⟨s13, e14, h⟩ := M.inv h
    refine w_ifJ (fun (s13 : D) ρ => ρ = [some (false, n1), some (false, d2), some (false, s13)]) (tv_op2 (pe_v rfl) (pe_e (vx ev_c)) (pg_v rfl) pg_e e8) e14 (fun s h => ?_) (fun s h => ?_) (fun ρ hI => ?_)
    · change O.wq ((_ : SF) [_, _, _]) _
      obtain ⟨t11, e12, h⟩ := M.inv h
      refine w_fin (sv_set (ev_op2 (pe_e (vx ev_c)) (pe_v rfl) pg_e (pg_v rfl) e12)) ?_
      replace h := M.ok.inj h
      subst h
      exact rfl
    · change O.wq ((_ : SF) [_, _, _]) _
      refine w_fin sv_nil ?_
      replace h := M.ok.inj h
      subst h
      exact rfl
    · subst hI
      change O.wq ((_ : SF) [_, _, _]) _
      obtain ⟨t15, e16, h⟩ := M.inv h
      obtain ⟨t17, e18, h⟩ := M.inv h
      replace h := M.ok.inj h
      subst h
      exact w_ret (ev_tup (ea1 (vx (ev_op2 (pe_v rfl) (pe_v rfl) (pg_v rfl) (pg_v rfl) e16)) (ea1 (vx (ev_op2 (pe_v rfl) (pe_v rfl) (pg_v rfl) (pg_v rfl) e18)) ea0)) rfl) rfl
def b_plus : SF :=
    (sRet (fCall d_fraction_of [(.val (op2 dAdd (.val (op2 dMul (.val (op2 dIx (.var 0) (.val (fC (.int 0))))) (.val (op2 dIx (.var 1) (.val (fC (.int 1))))))) (.val (op2 dMul (.val (op2 dIx (.var 1) (.val (fC (.int 0))))) (.val (op2 dIx (.var 0) (.val (fC (.int 1))))))))), (.val (op2 dMul (.val (op2 dIx (.var 0) (.val (fC (.int 1))))) (.val (op2 dIx (.var 1) (.val (fC (.int 1)))))))]))
def d_plus : FD := runF 2 2 false b_plus
def n_plus (one1 two2 : D) : M D :=
  (q2 dIx one1 (D.int 0)).bind fun t3 => (q2 dIx two2 (D.int 1)).bind fun t5 => (q2 dMul t3 t5).bind fun t7 => (q2 dIx two2 (D.int 0)).bind fun t9 => (q2 dIx one1 (D.int 1)).bind fun t11 => (q2 dMul t9 t11).bind fun t13 => (q2 dAdd t7 t13).bind fun t15 => (q2 dIx one1 (D.int 1)).bind fun t17 => (q2 dIx two2 (D.int 1)).bind fun t19 => (q2 dMul t17 t19).bind fun t21 => (n_fraction_of t15 t21).bind fun t23 => .ok t23
theorem sim_plus {one1 two2 : D} {v : D} (h : n_plus one1 two2 = .ok v) : d_plus [one1, two2] = .ok (false, v, []) := by
  unfold n_plus at h
  refine run_fq rfl ?_
  change O.wq (b_plus [some (false, one1), some (false, two2)]) _
  unfold b_plus
  change O.wq ((_ : SF) [_, _]) _
  obtain ⟨t3, e4, h⟩ := M.inv h
  obtain ⟨t5, e6, h⟩ := M.inv h
  obtain ⟨t7, e8, h⟩ := M.inv h
  obtain ⟨t9, e10, h⟩ := M.inv h
  obtain ⟨t11, e12, h⟩ := M.inv h
  obtain ⟨t13, e14, h⟩ := M.inv h
  obtain ⟨t15, e16, h⟩ := M.inv h
  obtain ⟨t17, e18, h⟩ := M.inv h
  obtain ⟨t19, e20, h⟩ := M.inv h
  obtain ⟨t21, e22, h⟩ := M.inv h
  obtain ⟨t23, e24, h⟩ := M.inv h
  replace h := M.ok.inj h
  subst h
  exact w_ret (ev_call (pes1 (pe_e (ex_op2 (pe_e (ex_op2 (pe_e (vx (ev_op2 (pe_v rfl) (pe_e (vx ev_c)) (pg_v rfl) pg_e e4))) (pe_e (vx (ev_op2 (pe_v rfl) (pe_e (vx ev_c)) (pg_v rfl) pg_e e6))) pg_e pg_e e8)) (pe_e (ex_op2 (pe_e (vx (ev_op2 (pe_v rfl) (pe_e (vx ev_c)) (pg_v rfl) pg_e e10))) (pe_e (vx (ev_op2 (pe_v rfl) (pe_e (vx ev_c)) (pg_v rfl) pg_e e12))) pg_e pg_e e14)) pg_e pg_e e16)) (pes1 (pe_e (ex_op2 (pe_e (vx (ev_op2 (pe_v rfl) (pe_e (vx ev_c)) (pg_v rfl) pg_e e18))) (pe_e (vx (ev_op2 (pe_v rfl) (pe_e (vx ev_c)) (pg_v rfl) pg_e e20))) pg_e pg_e e22)) pes0)) (pgs1 pg_e (pgs1 pg_e pgs0)) (sim_fraction_of e24) rfl) rfl
def b_times : SF :=
    (sRet (fCall d_fraction_of [(.val (op2 dMul (.val (op2 dIx (.var 0) (.val (fC (.int 0))))) (.val (op2 dIx (.var 1) (.val (fC (.int 0))))))), (.val (op2 dMul (.val (op2 dIx (.var 0) (.val (fC (.int 1))))) (.val (op2 dIx (.var 1) (.val (fC (.int 1)))))))]))
def d_times : FD := runF 2 2 false b_times
def n_times (one1 two2 : D) : M D :=
  (q2 dIx one1 (D.int 0)).bind fun t3 => (q2 dIx two2 (D.int 0)).bind fun t5 => (q2 dMul t3 t5).bind fun t7 => (q2 dIx one1 (D.int 1)).bind fun t9 => (q2 dIx two2 (D.int 1)).bind fun t11 => (q2 dMul t9 t11).bind fun t13 => (n_fraction_of t7 t13).bind fun t15 => .ok t15
theorem sim_times {one1 two2 : D} {v : D} (h : n_times one1 two2 = .ok v) : d_times [one1, two2] = .ok (false, v, []) := by
  unfold n_times at h
  refine run_fq rfl ?_
  change O.wq (b_times [some (false, one1), some (false, two2)]) _
  unfold b_times
  change O.wq ((_ : SF) [_, _]) _
  obtain ⟨t3, e4, h⟩ := M.inv h
  obtain ⟨t5, e6, h⟩ := M.inv h
  obtain ⟨t7, e8, h⟩ := M.inv h
  obtain ⟨t9, e10, h⟩ := M.inv h
  obtain ⟨t11, e12, h⟩ := M.inv h
  obtain ⟨t13, e14, h⟩ := M.inv h
  obtain ⟨t15, e16, h⟩ := M.inv h
  replace h := M.ok.inj h
  subst h
  exact w_ret (ev_call (pes1 (pe_e (ex_op2 (pe_e (vx (ev_op2 (pe_v rfl) (pe_e (vx ev_c)) (pg_v rfl) pg_e e4))) (pe_e (vx (ev_op2 (pe_v rfl) (pe_e (vx ev_c)) (pg_v rfl) pg_e e6))) pg_e pg_e e8)) (pes1 (pe_e (ex_op2 (pe_e (vx (ev_op2 (pe_v rfl) (pe_e (vx ev_c)) (pg_v rfl) pg_e e10))) (pe_e (vx (ev_op2 (pe_v rfl) (pe_e (vx ev_c)) (pg_v rfl) pg_e e12))) pg_e pg_e e14)) pes0)) (pgs1 pg_e (pgs1 pg_e pgs0)) (sim_fraction_of e16) rfl) rfl
def b_over : SF :=
    (sRet (fCall d_fraction_of [(.val (op2 dMul (.val (op2 dIx (.var 0) (.val (fC (.int 0))))) (.val (op2 dIx (.var 1) (.val (fC (.int 1))))))), (.val (op2 dMul (.val (op2 dIx (.var 0) (.val (fC (.int 1))))) (.val (op2 dIx (.var 1) (.val (fC (.int 0)))))))]))
def d_over : FD := runF 2 2 false b_over
def n_over (one1 two2 : D) : M D :=
  (q2 dIx one1 (D.int 0)).bind fun t3 => (q2 dIx two2 (D.int 1)).bind fun t5 => (q2 dMul t3 t5).bind fun t7 => (q2 dIx one1 (D.int 1)).bind fun t9 => (q2 dIx two2 (D.int 0)).bind fun t11 => (q2 dMul t9 t11).bind fun t13 => (n_fraction_of t7 t13).bind fun t15 => .ok t15
theorem sim_over {one1 two2 : D} {v : D} (h : n_over one1 two2 = .ok v) : d_over [one1, two2] = .ok (false, v, []) := by
  unfold n_over at h
  refine run_fq rfl ?_
  change O.wq (b_over [some (false, one1), some (false, two2)]) _
  unfold b_over
  change O.wq ((_ : SF) [_, _]) _
  obtain ⟨t3, e4, h⟩ := M.inv h
  obtain ⟨t5, e6, h⟩ := M.inv h
  obtain ⟨t7, e8, h⟩ := M.inv h
  obtain ⟨t9, e10, h⟩ := M.inv h
  obtain ⟨t11, e12, h⟩ := M.inv h
  obtain ⟨t13, e14, h⟩ := M.inv h
  obtain ⟨t15, e16, h⟩ := M.inv h
  replace h := M.ok.inj h
  subst h
  exact w_ret (ev_call (pes1 (pe_e (ex_op2 (pe_e (vx (ev_op2 (pe_v rfl) (pe_e (vx ev_c)) (pg_v rfl) pg_e e4))) (pe_e (vx (ev_op2 (pe_v rfl) (pe_e (vx ev_c)) (pg_v rfl) pg_e e6))) pg_e pg_e e8)) (pes1 (pe_e (ex_op2 (pe_e (vx (ev_op2 (pe_v rfl) (pe_e (vx ev_c)) (pg_v rfl) pg_e e10))) (pe_e (vx (ev_op2 (pe_v rfl) (pe_e (vx ev_c)) (pg_v rfl) pg_e e12))) pg_e pg_e e14)) pes0)) (pgs1 pg_e (pgs1 pg_e pgs0)) (sim_fraction_of e16) rfl) rfl
def n_law_gcd_b1 (s7 : D × D) : M Bool :=
  (b2 dGt s7.2 (D.int 0)).bind fun c8 => .ok c8
def n_law_gcd_b2 (s7 : D × D) : M (D × D) :=
  (qN dInt [s7.1]).bind fun t10 => (q2 dMod t10 s7.2).bind fun t12 => 
  .ok (s7.2, t12)
def b_law_gcd : SF :=
    (sSeq (sPar [(0, (opN dAbs [(.var 0)])), (1, (opN dAbs [(.var 1)]))])
    (sSeq (sWhile 16777216 (tOp2 dGt (.var 1) (.val (fC (.int 0))))
    (sPar [(0, (fVar 1)), (1, (op2 dMod (.val (opN dInt [(.var 0)])) (.var 1)))]))
    (sRet (fMv 0))))
def d_law_gcd : FD := runF 2 2 false b_law_gcd
def n_law_gcd (one1 two2 : D) : M D :=
  (qN dAbs [one1]).bind fun t3 => (qN dAbs [two2]).bind fun t5 => 
  (whS n_law_gcd_b1 n_law_gcd_b2 16777216 (t3, t5)).bind fun s14 =>
  .ok s14.1
theorem sim_law_gcd {one1 two2 : D} {v : D} (h : n_law_gcd one1 two2 = .ok v) : d_law_gcd [one1, two2] = .ok (false, v, []) := by
  unfold n_law_gcd at h
  refine run_fq rfl ?_
  change O.wq (b_law_gcd [some (false, one1), some (false, two2)]) _
  unfold b_law_gcd
  change O.wq ((_ : SF) [_, _]) _
  obtain ⟨t3, e4, h⟩ := M.inv h
  obtain ⟨t5, e6, h⟩ := M.inv h
  refine w_par ?_
  refine w_par1 (ev_opN (pes1 (pe_v rfl) pes0) (pgs1 (pg_v rfl) pgs0) e4) ?_
  refine w_par1 (ev_opN (pes1 (pe_v rfl) pes0) (pgs1 (pg_v rfl) pgs0) e6) ?_
  refine w_par0 ?_
  change O.wq ((_ : SF) [_, _]) _
  obtain ⟨s14, e15, h⟩ := M.inv h
  refine w_whS (fun (s7 : D × D) ρ => ρ = [some (false, s7.1), some (false, s7.2)]) e15 rfl ?_ ?_ ?_
  · intro s7 ρ c hI h
    subst hI
    obtain ⟨c8, e9, h⟩ := M.inv h
    cases h
    exact (tv_op2 (pe_v rfl) (pe_e (vx ev_c)) (pg_v rfl) pg_e e9)
  · intro s7 ρ r hI h
    subst hI
    change O.wq ((_ : SF) [_, _]) _
    obtain ⟨t10, e11, h⟩ := M.inv h
    obtain ⟨t12, e13, h⟩ := M.inv h
    refine w_parf ?_
    refine w_par1 (ev_varF rfl) ?_
    refine w_par1 (ev_op2 (pe_e (vx (ev_opN (pes1 (pe_v rfl) pes0) (pgs1 (pg_v rfl) pgs0) e11))) (pe_v rfl) pg_e (pg_v rfl) e13) ?_
    refine w_par0 ?_
    replace h := M.ok.inj h
    subst h
    exact rfl
  · intro ρ hI
    subst hI
    change O.wq ((_ : SF) [_, _]) _
    replace h := M.ok.inj h
    subst h
    exact w_ret (ev_mvF rfl) rfl
def b_law_part : SF :=
    (sSeq (sSet 2 (fCall d_law_gcd [(.var 0), (.var 1)]))
    (sSeq (sSet 2 (fIf (tOp2 dGt (.var 1) (.val (fC (.int 0)))) (fVar 2) (op2 dSub (.val (fC (.int 0))) (.var 2))))
    (sRet (fTup [(op2 dFdiv (.var 0) (.var 2)), (op2 dFdiv (.var 1) (.var 2))]))))
def d_law_part : FD := runF 2 3 false b_law_part
def n_law_part (n1 d2 : D) : M D :=
  (n_law_gcd n1 d2).bind fun t3 => 
  (b2 dGt d2 (D.int 0)).bind fun c5 => (cond c5 (.ok t3) ((q2 dSub (D.int 0) t3).bind fun t7 => .ok t7) : M D).bind fun t9 => 
  (q2 dFdiv n1 t9).bind fun t11 => (q2 dFdiv d2 t9).bind fun t13 => .ok (D.tup [t11, t13])
theorem sim_law_part {n1 d2 : D} {v : D} (h : n_law_part n1 d2 = .ok v) : d_law_part [n1, d2] = .ok (false, v, []) := by
  unfold n_law_part at h
  refine run_fq rfl ?_
  change O.wq (b_law_part [some (false, n1), some (false, d2), none]) _
  unfold b_law_part
  change O.wq ((_ : SF) [_, _, _]) _
  obtain ⟨t3, e4, h⟩ := M.inv h
  refine w_nx (sv_set (ev_call (pes1 (pe_v rfl) (pes1 (pe_v rfl) pes0)) (pgs1 (pg_v rfl) (pgs1 (pg_v rfl) pgs0)) (sim_law_gcd e4) rfl)) ?_
  change O.wq ((_ : SF) [_, _, _]) _
  obtain ⟨c5, e6, h⟩ := M.inv h
  obtain ⟨t9, e10, h⟩ := M.inv h
  refine w_nx (sv_set (ev_ifN false (tv_op2 (pe_v rfl) (pe_e (vx ev_c)) (pg_v rfl) pg_e e6) e10 (fun v h => by cases h; exact (ev_varF rfl)) (fun v h => by obtain ⟨t7, e8, h⟩ := M.inv h; cases h; exact (ev_op2 (pe_e (vx ev_c)) (pe_v rfl) pg_e (pg_v rfl) e8)))) ?_
  change O.wq ((_ : SF) [_, _, _]) _
  obtain ⟨t11, e12, h⟩ := M.inv h
  obtain ⟨t13, e14, h⟩ := M.inv h
  replace h := M.ok.inj h
  subst h
  exact w_ret (ev_tup (ea1 (vx (ev_op2 (pe_v rfl) (pe_v rfl) (pg_v rfl) (pg_v rfl) e12)) (ea1 (vx (ev_op2 (pe_v rfl) (pe_v rfl) (pg_v rfl) (pg_v rfl) e14)) ea0)) rfl) rfl
def b_law_plus : SF :=
    (sRet (fCall d_law_part [(.val (op2 dAdd (.val (op2 dMul (.val (op2 dIx (.var 0) (.val (fC (.int 0))))) (.val (op2 dIx (.var 1) (.val (fC (.int 1))))))) (.val (op2 dMul (.val (op2 dIx (.var 1) (.val (fC (.int 0))))) (.val (op2 dIx (.var 0) (.val (fC (.int 1))))))))), (.val (op2 dMul (.val (op2 dIx (.var 0) (.val (fC (.int 1))))) (.val (op2 dIx (.var 1) (.val (fC (.int 1)))))))]))
def d_law_plus : FD := runF 2 2 false b_law_plus
def n_law_plus (one1 two2 : D) : M D :=
  (q2 dIx one1 (D.int 0)).bind fun t3 => (q2 dIx two2 (D.int 1)).bind fun t5 => (q2 dMul t3 t5).bind fun t7 => (q2 dIx two2 (D.int 0)).bind fun t9 => (q2 dIx one1 (D.int 1)).bind fun t11 => (q2 dMul t9 t11).bind fun t13 => (q2 dAdd t7 t13).bind fun t15 => (q2 dIx one1 (D.int 1)).bind fun t17 => (q2 dIx two2 (D.int 1)).bind fun t19 => (q2 dMul t17 t19).bind fun t21 => (n_law_part t15 t21).bind fun t23 => .ok t23
theorem sim_law_plus {one1 two2 : D} {v : D} (h : n_law_plus one1 two2 = .ok v) : d_law_plus [one1, two2] = .ok (false, v, []) := by
  unfold n_law_plus at h
  refine run_fq rfl ?_
  change O.wq (b_law_plus [some (false, one1), some (false, two2)]) _
  unfold b_law_plus
  change O.wq ((_ : SF) [_, _]) _
  obtain ⟨t3, e4, h⟩ := M.inv h
  obtain ⟨t5, e6, h⟩ := M.inv h
  obtain ⟨t7, e8, h⟩ := M.inv h
  obtain ⟨t9, e10, h⟩ := M.inv h
  obtain ⟨t11, e12, h⟩ := M.inv h
  obtain ⟨t13, e14, h⟩ := M.inv h
  obtain ⟨t15, e16, h⟩ := M.inv h
  obtain ⟨t17, e18, h⟩ := M.inv h
  obtain ⟨t19, e20, h⟩ := M.inv h
  obtain ⟨t21, e22, h⟩ := M.inv h
  obtain ⟨t23, e24, h⟩ := M.inv h
  replace h := M.ok.inj h
  subst h
  exact w_ret (ev_call (pes1 (pe_e (ex_op2 (pe_e (ex_op2 (pe_e (vx (ev_op2 (pe_v rfl) (pe_e (vx ev_c)) (pg_v rfl) pg_e e4))) (pe_e (vx (ev_op2 (pe_v rfl) (pe_e (vx ev_c)) (pg_v rfl) pg_e e6))) pg_e pg_e e8)) (pe_e (ex_op2 (pe_e (vx (ev_op2 (pe_v rfl) (pe_e (vx ev_c)) (pg_v rfl) pg_e e10))) (pe_e (vx (ev_op2 (pe_v rfl) (pe_e (vx ev_c)) (pg_v rfl) pg_e e12))) pg_e pg_e e14)) pg_e pg_e e16)) (pes1 (pe_e (ex_op2 (pe_e (vx (ev_op2 (pe_v rfl) (pe_e (vx ev_c)) (pg_v rfl) pg_e e18))) (pe_e (vx (ev_op2 (pe_v rfl) (pe_e (vx ev_c)) (pg_v rfl) pg_e e20))) pg_e pg_e e22)) pes0)) (pgs1 pg_e (pgs1 pg_e pgs0)) (sim_law_part e24) rfl) rfl
def b_law_times : SF :=
    (sRet (fCall d_law_part [(.val (op2 dMul (.val (op2 dIx (.var 0) (.val (fC (.int 0))))) (.val (op2 dIx (.var 1) (.val (fC (.int 0))))))), (.val (op2 dMul (.val (op2 dIx (.var 0) (.val (fC (.int 1))))) (.val (op2 dIx (.var 1) (.val (fC (.int 1)))))))]))
def d_law_times : FD := runF 2 2 false b_law_times
def n_law_times (one1 two2 : D) : M D :=
  (q2 dIx one1 (D.int 0)).bind fun t3 => (q2 dIx two2 (D.int 0)).bind fun t5 => (q2 dMul t3 t5).bind fun t7 => (q2 dIx one1 (D.int 1)).bind fun t9 => (q2 dIx two2 (D.int 1)).bind fun t11 => (q2 dMul t9 t11).bind fun t13 => (n_law_part t7 t13).bind fun t15 => .ok t15
theorem sim_law_times {one1 two2 : D} {v : D} (h : n_law_times one1 two2 = .ok v) : d_law_times [one1, two2] = .ok (false, v, []) := by
  unfold n_law_times at h
  refine run_fq rfl ?_
  change O.wq (b_law_times [some (false, one1), some (false, two2)]) _
  unfold b_law_times
  change O.wq ((_ : SF) [_, _]) _
  obtain ⟨t3, e4, h⟩ := M.inv h
  obtain ⟨t5, e6, h⟩ := M.inv h
  obtain ⟨t7, e8, h⟩ := M.inv h
  obtain ⟨t9, e10, h⟩ := M.inv h
  obtain ⟨t11, e12, h⟩ := M.inv h
  obtain ⟨t13, e14, h⟩ := M.inv h
  obtain ⟨t15, e16, h⟩ := M.inv h
  replace h := M.ok.inj h
  subst h
  exact w_ret (ev_call (pes1 (pe_e (ex_op2 (pe_e (vx (ev_op2 (pe_v rfl) (pe_e (vx ev_c)) (pg_v rfl) pg_e e4))) (pe_e (vx (ev_op2 (pe_v rfl) (pe_e (vx ev_c)) (pg_v rfl) pg_e e6))) pg_e pg_e e8)) (pes1 (pe_e (ex_op2 (pe_e (vx (ev_op2 (pe_v rfl) (pe_e (vx ev_c)) (pg_v rfl) pg_e e10))) (pe_e (vx (ev_op2 (pe_v rfl) (pe_e (vx ev_c)) (pg_v rfl) pg_e e12))) pg_e pg_e e14)) pes0)) (pgs1 pg_e (pgs1 pg_e pgs0)) (sim_law_part e16) rfl) rfl
def b_law_less : SF :=
    (sRet (fCall d_law_part [(.val (op2 dSub (.val (op2 dMul (.val (op2 dIx (.var 0) (.val (fC (.int 0))))) (.val (op2 dIx (.var 1) (.val (fC (.int 1))))))) (.val (op2 dMul (.val (op2 dIx (.var 1) (.val (fC (.int 0))))) (.val (op2 dIx (.var 0) (.val (fC (.int 1))))))))), (.val (op2 dMul (.val (op2 dIx (.var 0) (.val (fC (.int 1))))) (.val (op2 dIx (.var 1) (.val (fC (.int 1)))))))]))
def d_law_less : FD := runF 2 2 false b_law_less
def n_law_less (one1 two2 : D) : M D :=
  (q2 dIx one1 (D.int 0)).bind fun t3 => (q2 dIx two2 (D.int 1)).bind fun t5 => (q2 dMul t3 t5).bind fun t7 => (q2 dIx two2 (D.int 0)).bind fun t9 => (q2 dIx one1 (D.int 1)).bind fun t11 => (q2 dMul t9 t11).bind fun t13 => (q2 dSub t7 t13).bind fun t15 => (q2 dIx one1 (D.int 1)).bind fun t17 => (q2 dIx two2 (D.int 1)).bind fun t19 => (q2 dMul t17 t19).bind fun t21 => (n_law_part t15 t21).bind fun t23 => .ok t23
theorem sim_law_less {one1 two2 : D} {v : D} (h : n_law_less one1 two2 = .ok v) : d_law_less [one1, two2] = .ok (false, v, []) := by
  unfold n_law_less at h
  refine run_fq rfl ?_
  change O.wq (b_law_less [some (false, one1), some (false, two2)]) _
  unfold b_law_less
  change O.wq ((_ : SF) [_, _]) _
  obtain ⟨t3, e4, h⟩ := M.inv h
  obtain ⟨t5, e6, h⟩ := M.inv h
  obtain ⟨t7, e8, h⟩ := M.inv h
  obtain ⟨t9, e10, h⟩ := M.inv h
  obtain ⟨t11, e12, h⟩ := M.inv h
  obtain ⟨t13, e14, h⟩ := M.inv h
  obtain ⟨t15, e16, h⟩ := M.inv h
  obtain ⟨t17, e18, h⟩ := M.inv h
  obtain ⟨t19, e20, h⟩ := M.inv h
  obtain ⟨t21, e22, h⟩ := M.inv h
  obtain ⟨t23, e24, h⟩ := M.inv h
  replace h := M.ok.inj h
  subst h
  exact w_ret (ev_call (pes1 (pe_e (vx (ev_op2 (pe_e (ex_op2 (pe_e (vx (ev_op2 (pe_v rfl) (pe_e (vx ev_c)) (pg_v rfl) pg_e e4))) (pe_e (vx (ev_op2 (pe_v rfl) (pe_e (vx ev_c)) (pg_v rfl) pg_e e6))) pg_e pg_e e8)) (pe_e (ex_op2 (pe_e (vx (ev_op2 (pe_v rfl) (pe_e (vx ev_c)) (pg_v rfl) pg_e e10))) (pe_e (vx (ev_op2 (pe_v rfl) (pe_e (vx ev_c)) (pg_v rfl) pg_e e12))) pg_e pg_e e14)) pg_e pg_e e16))) (pes1 (pe_e (ex_op2 (pe_e (vx (ev_op2 (pe_v rfl) (pe_e (vx ev_c)) (pg_v rfl) pg_e e18))) (pe_e (vx (ev_op2 (pe_v rfl) (pe_e (vx ev_c)) (pg_v rfl) pg_e e20))) pg_e pg_e e22)) pes0)) (pgs1 pg_e (pgs1 pg_e pgs0)) (sim_law_part e24) rfl) rfl
end H
namespace H
set_option autoImplicit false
open PySem L2 U
def v_common_part_b1  (s7 : (Int × Int)) : Bool :=
  (decide ((0 : Int) < s7.2))
theorem r_common_part_b1  (s7 : (Int × Int)) : n_common_part_b1  ((TL.jP D.int D.int) s7) = .ok (TL.eBl (v_common_part_b1  s7)) := by
  unfold n_common_part_b1 v_common_part_b1
  refine TL.Mb (TL.t_gt _ _) ?_
  rfl
def v_common_part_b2  (s7 : (Int × Int)) : (Int × Int) :=
  (s7.2, (Int.fmod s7.1 s7.2))
def g_common_part_b2  (s7 : (Int × Int)) : Prop :=
  s7.2 ≠ 0
theorem r_common_part_b2  (s7 : (Int × Int)) (hg : g_common_part_b2  s7) : n_common_part_b2  ((TL.jP D.int D.int) s7) = .ok ((TL.jP D.int D.int) (v_common_part_b2  s7)) := by
  unfold g_common_part_b2 at hg
  unfold n_common_part_b2 v_common_part_b2
  have hq := hg
  refine TL.Mb (@TL.t_mod _ _ hq) ?_
  rfl
def v_common_part (one1 : Int) (two2 : Int) : Int :=
  TL.letV (TL.whSV (v_common_part_b1) (v_common_part_b2) 16777216 ((TL.absV one1), (TL.absV two2))) fun s12 =>
  s12.1
def g_common_part (one1 : Int) (two2 : Int) : Prop :=
  TL.gWhS (v_common_part_b1) (v_common_part_b2) ((fun _ => True)) (g_common_part_b2) 16777216 ((TL.absV one1), (TL.absV two2))
theorem r_common_part (one1 : Int) (two2 : Int) (hg : g_common_part one1 two2) : n_common_part (D.int one1) (D.int two2) = .ok (D.int (v_common_part one1 two2)) := by
  unfold g_common_part at hg
  unfold n_common_part v_common_part
  refine TL.Mb (TL.t_abs _) ?_
  refine TL.Mb (TL.t_abs _) ?_
  have hq := hg
  refine TL.Ml (e := (TL.jP D.int D.int)) (c := D.int) (x := TL.whSV (v_common_part_b1) (v_common_part_b2) 16777216 ((TL.absV one1), (TL.absV two2))) (TL.tWhS (j := (TL.jP D.int D.int)) (t := v_common_part_b1) (b := v_common_part_b2) (gt := (fun _ => True)) (gb := g_common_part_b2) (fun s hg => r_common_part_b1 s) (fun s hg => r_common_part_b2 s hg) 16777216 ((TL.absV one1), (TL.absV two2)) hq) ?_
  intro s12 hc1
  rfl
def v_fraction_of (n1 : Int) (d2 : Int) : (Int × Int) :=
  cond (TL.eqV d2 (0 : Int))
  (default)
  (TL.letV (v_common_part n1 d2) fun t5 =>
  TL.letV (cond (decide (d2 < (0 : Int)))
  (((0 : Int) - t5))
  (t5)) fun s13 =>
  ((Int.fdiv n1 s13), (Int.fdiv d2 s13)))
def g_fraction_of (n1 : Int) (d2 : Int) : Prop :=
  ((TL.eqV d2 (0 : Int)) = true → False) ∧ ((TL.eqV d2 (0 : Int)) = false → g_common_part n1 d2 ∧ (∀ t5, t5 = (v_common_part n1 d2) → ∀ s13, s13 = (cond (decide (d2 < (0 : Int)))
  (((0 : Int) - t5))
  (t5)) → TL.divG s13 ∧ TL.divG s13))
theorem r_fraction_of (n1 : Int) (d2 : Int) (hg : g_fraction_of n1 d2) : n_fraction_of (D.int n1) (D.int d2) = .ok ((TL.eP2 D.int D.int) (v_fraction_of n1 d2)) := by
  unfold g_fraction_of at hg
  unfold n_fraction_of v_fraction_of
  refine TL.Mb (TL.t_eq TL.qI (by decide) d2 (0 : Int)) ?_
  refine TL.Mc (e := (TL.eP2 D.int D.int)) ?_ ?_
  · intro hc1
    replace hg := hg.1 hc1
    exact hg.elim
  · intro hc1
    replace hg := hg.2 hc1
    obtain ⟨hq, hg⟩ := hg
    refine TL.Ml (e := D.int) (c := (TL.eP2 D.int D.int)) (x := v_common_part n1 d2) (r_common_part n1 d2 hq) ?_
    intro t5 hc3
    replace hg := hg t5 hc3
    refine TL.Mb (TL.t_lt _ _) ?_
    refine TL.Ml (e := D.int) (c := (TL.eP2 D.int D.int)) (x := cond (decide (d2 < (0 : Int)))
  (((0 : Int) - t5))
  (t5)) (show _ = M.ok (D.int (cond (decide (d2 < (0 : Int)))   (((0 : Int) - t5))   (t5))) from by
    refine TL.Mc (e := D.int) ?_ ?_
    · intro hc2
      refine TL.Mb (TL.t_sub _ _) ?_
      rfl
    · intro hc2
      rfl) ?_
    intro s13 hc4
    replace hg := hg s13 hc4
    obtain ⟨hq, hg⟩ := hg
    refine TL.Mb (@TL.t_fdiv _ _ hq) ?_
    have hq := hg
    refine TL.Mb (@TL.t_fdiv _ _ hq) ?_
    rfl
def v_plus (one1 : (Int × Int)) (two2 : (Int × Int)) : (Int × Int) :=
  (v_fraction_of ((one1.1 * two2.2) + (two2.1 * one1.2)) (one1.2 * two2.2))
def g_plus (one1 : (Int × Int)) (two2 : (Int × Int)) : Prop :=
  TL.mulG one1.1 two2.2 ∧ TL.mulG two2.1 one1.2 ∧ TL.mulG one1.2 two2.2 ∧ g_fraction_of ((one1.1 * two2.2) + (two2.1 * one1.2)) (one1.2 * two2.2)
theorem r_plus (one1 : (Int × Int)) (two2 : (Int × Int)) (hg : g_plus one1 two2) : n_plus ((TL.eP2 D.int D.int) one1) ((TL.eP2 D.int D.int) two2) = .ok ((TL.eP2 D.int D.int) (v_plus one1 two2)) := by
  unfold g_plus at hg
  unfold n_plus v_plus
  refine TL.Mb (TL.t_ixP20 D.int D.int one1) ?_
  refine TL.Mb (TL.t_ixP21 D.int D.int two2) ?_
  obtain ⟨hq, hg⟩ := hg
  refine TL.Mb (@TL.t_mul one1.1 two2.2 hq) ?_
  refine TL.Mb (TL.t_ixP20 D.int D.int two2) ?_
  refine TL.Mb (TL.t_ixP21 D.int D.int one1) ?_
  obtain ⟨hq, hg⟩ := hg
  refine TL.Mb (@TL.t_mul two2.1 one1.2 hq) ?_
  refine TL.Mb (TL.t_add _ _) ?_
  refine TL.Mb (TL.t_ixP21 D.int D.int one1) ?_
  refine TL.Mb (TL.t_ixP21 D.int D.int two2) ?_
  obtain ⟨hq, hg⟩ := hg
  refine TL.Mb (@TL.t_mul one1.2 two2.2 hq) ?_
  have hq := hg
  refine TL.Mb (r_fraction_of ((one1.1 * two2.2) + (two2.1 * one1.2)) (one1.2 * two2.2) hq) ?_
  rfl
def v_times (one1 : (Int × Int)) (two2 : (Int × Int)) : (Int × Int) :=
  (v_fraction_of (one1.1 * two2.1) (one1.2 * two2.2))
def g_times (one1 : (Int × Int)) (two2 : (Int × Int)) : Prop :=
  TL.mulG one1.1 two2.1 ∧ TL.mulG one1.2 two2.2 ∧ g_fraction_of (one1.1 * two2.1) (one1.2 * two2.2)
theorem r_times (one1 : (Int × Int)) (two2 : (Int × Int)) (hg : g_times one1 two2) : n_times ((TL.eP2 D.int D.int) one1) ((TL.eP2 D.int D.int) two2) = .ok ((TL.eP2 D.int D.int) (v_times one1 two2)) := by
  unfold g_times at hg
  unfold n_times v_times
  refine TL.Mb (TL.t_ixP20 D.int D.int one1) ?_
  refine TL.Mb (TL.t_ixP20 D.int D.int two2) ?_
  obtain ⟨hq, hg⟩ := hg
  refine TL.Mb (@TL.t_mul one1.1 two2.1 hq) ?_
  refine TL.Mb (TL.t_ixP21 D.int D.int one1) ?_
  refine TL.Mb (TL.t_ixP21 D.int D.int two2) ?_
  obtain ⟨hq, hg⟩ := hg
  refine TL.Mb (@TL.t_mul one1.2 two2.2 hq) ?_
  have hq := hg
  refine TL.Mb (r_fraction_of (one1.1 * two2.1) (one1.2 * two2.2) hq) ?_
  rfl
def v_over (one1 : (Int × Int)) (two2 : (Int × Int)) : (Int × Int) :=
  (v_fraction_of (one1.1 * two2.2) (one1.2 * two2.1))
def g_over (one1 : (Int × Int)) (two2 : (Int × Int)) : Prop :=
  TL.mulG one1.1 two2.2 ∧ TL.mulG one1.2 two2.1 ∧ g_fraction_of (one1.1 * two2.2) (one1.2 * two2.1)
theorem r_over (one1 : (Int × Int)) (two2 : (Int × Int)) (hg : g_over one1 two2) : n_over ((TL.eP2 D.int D.int) one1) ((TL.eP2 D.int D.int) two2) = .ok ((TL.eP2 D.int D.int) (v_over one1 two2)) := by
  unfold g_over at hg
  unfold n_over v_over
  refine TL.Mb (TL.t_ixP20 D.int D.int one1) ?_
  refine TL.Mb (TL.t_ixP21 D.int D.int two2) ?_
  obtain ⟨hq, hg⟩ := hg
  refine TL.Mb (@TL.t_mul one1.1 two2.2 hq) ?_
  refine TL.Mb (TL.t_ixP21 D.int D.int one1) ?_
  refine TL.Mb (TL.t_ixP20 D.int D.int two2) ?_
  obtain ⟨hq, hg⟩ := hg
  refine TL.Mb (@TL.t_mul one1.2 two2.1 hq) ?_
  have hq := hg
  refine TL.Mb (r_fraction_of (one1.1 * two2.2) (one1.2 * two2.1) hq) ?_
  rfl
def v_law_gcd_b1  (s7 : (Int × Int)) : Bool :=
  (decide ((0 : Int) < s7.2))
theorem r_law_gcd_b1  (s7 : (Int × Int)) : n_law_gcd_b1  ((TL.jP D.int D.int) s7) = .ok (TL.eBl (v_law_gcd_b1  s7)) := by
  unfold n_law_gcd_b1 v_law_gcd_b1
  refine TL.Mb (TL.t_gt _ _) ?_
  rfl
def v_law_gcd_b2  (s7 : (Int × Int)) : (Int × Int) :=
  (s7.2, (Int.fmod s7.1 s7.2))
def g_law_gcd_b2  (s7 : (Int × Int)) : Prop :=
  s7.2 ≠ 0
theorem r_law_gcd_b2  (s7 : (Int × Int)) (hg : g_law_gcd_b2  s7) : n_law_gcd_b2  ((TL.jP D.int D.int) s7) = .ok ((TL.jP D.int D.int) (v_law_gcd_b2  s7)) := by
  unfold g_law_gcd_b2 at hg
  unfold n_law_gcd_b2 v_law_gcd_b2
  refine TL.Mb (TL.t_int _) ?_
  have hq := hg
  refine TL.Mb (@TL.t_mod _ _ hq) ?_
  rfl
def v_law_gcd (one1 : Int) (two2 : Int) : Int :=
  TL.letV (TL.whSV (v_law_gcd_b1) (v_law_gcd_b2) 16777216 ((TL.absV one1), (TL.absV two2))) fun s14 =>
  s14.1
def g_law_gcd (one1 : Int) (two2 : Int) : Prop :=
  TL.gWhS (v_law_gcd_b1) (v_law_gcd_b2) ((fun _ => True)) (g_law_gcd_b2) 16777216 ((TL.absV one1), (TL.absV two2))
theorem r_law_gcd (one1 : Int) (two2 : Int) (hg : g_law_gcd one1 two2) : n_law_gcd (D.int one1) (D.int two2) = .ok (D.int (v_law_gcd one1 two2)) := by
  unfold g_law_gcd at hg
  unfold n_law_gcd v_law_gcd
  refine TL.Mb (TL.t_abs _) ?_
  refine TL.Mb (TL.t_abs _) ?_
  have hq := hg
  refine TL.Ml (e := (TL.jP D.int D.int)) (c := D.int) (x := TL.whSV (v_law_gcd_b1) (v_law_gcd_b2) 16777216 ((TL.absV one1), (TL.absV two2))) (TL.tWhS (j := (TL.jP D.int D.int)) (t := v_law_gcd_b1) (b := v_law_gcd_b2) (gt := (fun _ => True)) (gb := g_law_gcd_b2) (fun s hg => r_law_gcd_b1 s) (fun s hg => r_law_gcd_b2 s hg) 16777216 ((TL.absV one1), (TL.absV two2)) hq) ?_
  intro s14 hc1
  rfl
def v_law_part (n1 : Int) (d2 : Int) : (Int × Int) :=
  TL.letV (v_law_gcd n1 d2) fun t3 =>
  TL.letV (cond (decide ((0 : Int) < d2))
  (t3)
  (((0 : Int) - t3))) fun t9 =>
  ((Int.fdiv n1 t9), (Int.fdiv d2 t9))
def g_law_part (n1 : Int) (d2 : Int) : Prop :=
  g_law_gcd n1 d2 ∧ (∀ t3, t3 = (v_law_gcd n1 d2) → ∀ t9, t9 = (cond (decide ((0 : Int) < d2))
  (t3)
  (((0 : Int) - t3))) → TL.divG t9 ∧ TL.divG t9)
theorem r_law_part (n1 : Int) (d2 : Int) (hg : g_law_part n1 d2) : n_law_part (D.int n1) (D.int d2) = .ok ((TL.eP2 D.int D.int) (v_law_part n1 d2)) := by
  unfold g_law_part at hg
  unfold n_law_part v_law_part
  obtain ⟨hq, hg⟩ := hg
  refine TL.Ml (e := D.int) (c := (TL.eP2 D.int D.int)) (x := v_law_gcd n1 d2) (r_law_gcd n1 d2 hq) ?_
  intro t3 hc2
  replace hg := hg t3 hc2
  refine TL.Mb (TL.t_gt _ _) ?_
  refine TL.Ml (e := D.int) (c := (TL.eP2 D.int D.int)) (x := cond (decide ((0 : Int) < d2))
  (t3)
  (((0 : Int) - t3))) (show _ = M.ok (D.int (cond (decide ((0 : Int) < d2))   (t3)   (((0 : Int) - t3)))) from by
    refine TL.Mc (e := D.int) ?_ ?_
    · intro hc1
      rfl
    · intro hc1
      refine TL.Mb (TL.t_sub _ _) ?_
      rfl) ?_
  intro t9 hc3
  replace hg := hg t9 hc3
  obtain ⟨hq, hg⟩ := hg
  refine TL.Mb (@TL.t_fdiv _ _ hq) ?_
  have hq := hg
  refine TL.Mb (@TL.t_fdiv _ _ hq) ?_
  rfl
def v_law_plus (one1 : (Int × Int)) (two2 : (Int × Int)) : (Int × Int) :=
  (v_law_part ((one1.1 * two2.2) + (two2.1 * one1.2)) (one1.2 * two2.2))
def g_law_plus (one1 : (Int × Int)) (two2 : (Int × Int)) : Prop :=
  TL.mulG one1.1 two2.2 ∧ TL.mulG two2.1 one1.2 ∧ TL.mulG one1.2 two2.2 ∧ g_law_part ((one1.1 * two2.2) + (two2.1 * one1.2)) (one1.2 * two2.2)
theorem r_law_plus (one1 : (Int × Int)) (two2 : (Int × Int)) (hg : g_law_plus one1 two2) : n_law_plus ((TL.eP2 D.int D.int) one1) ((TL.eP2 D.int D.int) two2) = .ok ((TL.eP2 D.int D.int) (v_law_plus one1 two2)) := by
  unfold g_law_plus at hg
  unfold n_law_plus v_law_plus
  refine TL.Mb (TL.t_ixP20 D.int D.int one1) ?_
  refine TL.Mb (TL.t_ixP21 D.int D.int two2) ?_
  obtain ⟨hq, hg⟩ := hg
  refine TL.Mb (@TL.t_mul one1.1 two2.2 hq) ?_
  refine TL.Mb (TL.t_ixP20 D.int D.int two2) ?_
  refine TL.Mb (TL.t_ixP21 D.int D.int one1) ?_
  obtain ⟨hq, hg⟩ := hg
  refine TL.Mb (@TL.t_mul two2.1 one1.2 hq) ?_
  refine TL.Mb (TL.t_add _ _) ?_
  refine TL.Mb (TL.t_ixP21 D.int D.int one1) ?_
  refine TL.Mb (TL.t_ixP21 D.int D.int two2) ?_
  obtain ⟨hq, hg⟩ := hg
  refine TL.Mb (@TL.t_mul one1.2 two2.2 hq) ?_
  have hq := hg
  refine TL.Mb (r_law_part ((one1.1 * two2.2) + (two2.1 * one1.2)) (one1.2 * two2.2) hq) ?_
  rfl
def v_law_times (one1 : (Int × Int)) (two2 : (Int × Int)) : (Int × Int) :=
  (v_law_part (one1.1 * two2.1) (one1.2 * two2.2))
def g_law_times (one1 : (Int × Int)) (two2 : (Int × Int)) : Prop :=
  TL.mulG one1.1 two2.1 ∧ TL.mulG one1.2 two2.2 ∧ g_law_part (one1.1 * two2.1) (one1.2 * two2.2)
theorem r_law_times (one1 : (Int × Int)) (two2 : (Int × Int)) (hg : g_law_times one1 two2) : n_law_times ((TL.eP2 D.int D.int) one1) ((TL.eP2 D.int D.int) two2) = .ok ((TL.eP2 D.int D.int) (v_law_times one1 two2)) := by
  unfold g_law_times at hg
  unfold n_law_times v_law_times
  refine TL.Mb (TL.t_ixP20 D.int D.int one1) ?_
  refine TL.Mb (TL.t_ixP20 D.int D.int two2) ?_
  obtain ⟨hq, hg⟩ := hg
  refine TL.Mb (@TL.t_mul one1.1 two2.1 hq) ?_
  refine TL.Mb (TL.t_ixP21 D.int D.int one1) ?_
  refine TL.Mb (TL.t_ixP21 D.int D.int two2) ?_
  obtain ⟨hq, hg⟩ := hg
  refine TL.Mb (@TL.t_mul one1.2 two2.2 hq) ?_
  have hq := hg
  refine TL.Mb (r_law_part (one1.1 * two2.1) (one1.2 * two2.2) hq) ?_
  rfl
def v_law_less (one1 : (Int × Int)) (two2 : (Int × Int)) : (Int × Int) :=
  (v_law_part ((one1.1 * two2.2) - (two2.1 * one1.2)) (one1.2 * two2.2))
def g_law_less (one1 : (Int × Int)) (two2 : (Int × Int)) : Prop :=
  TL.mulG one1.1 two2.2 ∧ TL.mulG two2.1 one1.2 ∧ TL.mulG one1.2 two2.2 ∧ g_law_part ((one1.1 * two2.2) - (two2.1 * one1.2)) (one1.2 * two2.2)
theorem r_law_less (one1 : (Int × Int)) (two2 : (Int × Int)) (hg : g_law_less one1 two2) : n_law_less ((TL.eP2 D.int D.int) one1) ((TL.eP2 D.int D.int) two2) = .ok ((TL.eP2 D.int D.int) (v_law_less one1 two2)) := by
  unfold g_law_less at hg
  unfold n_law_less v_law_less
  refine TL.Mb (TL.t_ixP20 D.int D.int one1) ?_
  refine TL.Mb (TL.t_ixP21 D.int D.int two2) ?_
  obtain ⟨hq, hg⟩ := hg
  refine TL.Mb (@TL.t_mul one1.1 two2.2 hq) ?_
  refine TL.Mb (TL.t_ixP20 D.int D.int two2) ?_
  refine TL.Mb (TL.t_ixP21 D.int D.int one1) ?_
  obtain ⟨hq, hg⟩ := hg
  refine TL.Mb (@TL.t_mul two2.1 one1.2 hq) ?_
  refine TL.Mb (TL.t_sub _ _) ?_
  refine TL.Mb (TL.t_ixP21 D.int D.int one1) ?_
  refine TL.Mb (TL.t_ixP21 D.int D.int two2) ?_
  obtain ⟨hq, hg⟩ := hg
  refine TL.Mb (@TL.t_mul one1.2 two2.2 hq) ?_
  have hq := hg
  refine TL.Mb (r_law_part ((one1.1 * two2.2) - (two2.1 * one1.2)) (one1.2 * two2.2) hq) ?_
  rfl
end H
namespace H
set_option autoImplicit false
open PySem L2 U
def fr (q : Rat) : Int × Int := (q.num, (q.den : Nat))
theorem gcd_step {a b : Int} (ha : 0 ≤ a) (hb : 0 < b) : 0 ≤ a.fmod b ∧ a.fmod b < b ∧ Int.gcd b (a.fmod b) = Int.gcd a b := by
  have e : a.fmod b = a % b := Int.fmod_eq_emod_of_nonneg a (by omega)
  rw [e]
  refine ⟨Int.emod_nonneg a (by omega), Int.emod_lt_of_pos a hb, ?_⟩
  obtain ⟨x, rfl⟩ := Int.eq_ofNat_of_zero_le ha
  obtain ⟨y, rfl⟩ := Int.eq_ofNat_of_zero_le (Int.le_of_lt hb)
  rw [← Int.natCast_emod, Int.gcd_natCast_natCast, Int.gcd_natCast_natCast, Nat.gcd_comm y, ← Nat.gcd_rec, Nat.gcd_comm]
section
variable {t : Int × Int → Bool} {st : Int × Int → Int × Int} {gt gb : Int × Int → Prop}
theorem gcd_wh (ht : ∀ s, t s = decide (0 < s.2)) (hs : ∀ s, st s = (s.2, s.1.fmod s.2)) (hg : ∀ s, gt s) (hb : ∀ s : Int × Int, s.2 ≠ 0 → gb s) :
    ∀ (n : Nat) (a b : Int) (k : Nat), 0 ≤ a → 0 ≤ b → b < ((2 ^ n : Nat) : Int) → 2 * n + 2 ≤ k → TL.gWhS t st gt gb k (a, b) ∧ TL.whSV t st k (a, b) = (((Int.gcd a b : Nat) : Int), (0 : Int)) := by
  have zero : ∀ (a : Int) (k : Nat), 0 ≤ a → 1 ≤ k → TL.gWhS t st gt gb k (a, 0) ∧ TL.whSV t st k (a, 0) = (((Int.gcd a 0 : Nat) : Int), (0 : Int)) := by
    intro a k ha hk
    obtain ⟨k, rfl⟩ : ∃ j, k = j + 1 := ⟨k - 1, by omega⟩
    have h0 : t (a, 0) = false := by rw [ht]; rfl
    unfold TL.gWhS TL.whSV
    rw [h0]
    refine ⟨⟨hg _, fun e => nomatch e⟩, ?_⟩
    rw [Int.gcd_zero_right]
    show (a, (0 : Int)) = _
    rw [Int.natAbs_of_nonneg ha]
  have one : ∀ (a b : Int) (k : Nat), 0 ≤ a → 0 < b → (TL.gWhS t st gt gb k (b, a.fmod b) ∧ TL.whSV t st k (b, a.fmod b) = (((Int.gcd b (a.fmod b) : Nat) : Int), (0 : Int))) → TL.gWhS t st gt gb (k + 1) (a, b) ∧ TL.whSV t st (k + 1) (a, b) = (((Int.gcd a b : Nat) : Int), (0 : Int)) := by
    intro a b k ha hb' ⟨h1, h2⟩
    have h0 : t (a, b) = true := by rw [ht]; exact decide_eq_true hb'
    unfold TL.gWhS TL.whSV
    rw [h0, hs]
    refine ⟨⟨hg _, fun _ => ⟨hb _ (show b ≠ 0 by omega), h1⟩⟩, ?_⟩
    show TL.whSV t st k (b, a.fmod b) = _
    rw [h2, (gcd_step ha hb').2.2]
  intro n
  induction n with
  | zero =>
    intro a b k ha hb0 hlt hk
    have : b = 0 := by simp at hlt; omega
    subst this
    exact zero a k ha (by omega)
  | succ n ih =>
    intro a b k ha hb0 hlt hk
    by_cases h : b = 0
    · subst h; exact zero a k ha (by omega)
    · have s1 := gcd_step ha (show 0 < b by omega)
      obtain ⟨k, rfl⟩ : ∃ j, k = j + 1 + 1 := ⟨k - 2, by omega⟩
      refine one a b (k + 1) ha (by omega) ?_
      generalize a.fmod b = r at s1
      by_cases h2 : r = 0
      · subst h2; exact zero b (k + 1) hb0 (by omega)
      · have s2 := gcd_step hb0 (show 0 < r by omega)
        refine one b r k hb0 (by omega) ?_
        refine ih r (b.fmod r) k s1.1 s2.1 ?_ (by omega)
        have e : b.fmod r = b % r := Int.fmod_eq_emod_of_nonneg b (by omega)
        have h3 : 2 * (b % r) < b := by
          have h4 := Int.emod_add_mul_ediv b r
          have h5 : 1 ≤ b / r := by
            rw [Int.le_ediv_iff_mul_le (by omega)]; omega
          have h6 : r * 1 ≤ r * (b / r) := Int.mul_le_mul_of_nonneg_left h5 (by omega)
          have h7 : b % r < r := Int.emod_lt_of_pos b (by omega)
          omega
        rw [e]
        have : 2 ^ (n + 1) = 2 * 2 ^ n := by rw [Nat.pow_succ, Nat.mul_comm]
        omega
end
theorem absV_eq (a : Int) : TL.absV a = (a.natAbs : Int) := by unfold TL.absV; split <;> omega
theorem gcd_abs (a b : Int) : Int.gcd (a.natAbs : Int) (b.natAbs : Int) = Int.gcd a b := by
  rw [Int.gcd_eq_natAbs_gcd_natAbs, Int.gcd_eq_natAbs_gcd_natAbs, Int.natAbs_natCast, Int.natAbs_natCast]
theorem commonPart_ok (a b : Int) (h : b.natAbs < 2 ^ 8000) : g_common_part a b ∧ v_common_part a b = (Int.gcd a b : Nat) := by
  have k := gcd_wh (t := v_common_part_b1) (st := v_common_part_b2) (gt := fun _ => True) (gb := g_common_part_b2) (fun _ => rfl) (fun _ => rfl) (fun _ => trivial) (fun _ h => h) 8000 (a.natAbs : Int) (b.natAbs : Int) 16777216 (by omega) (by omega) (Int.ofNat_lt.mpr h) (by decide)
  rw [gcd_abs, ← absV_eq, ← absV_eq] at k
  refine ⟨k.1, ?_⟩
  unfold v_common_part TL.letV
  rw [k.2]
theorem lawGcd_ok (a b : Int) (h : b.natAbs < 2 ^ 8000) : g_law_gcd a b ∧ v_law_gcd a b = (Int.gcd a b : Nat) := by
  have k := gcd_wh (t := v_law_gcd_b1) (st := v_law_gcd_b2) (gt := fun _ => True) (gb := g_law_gcd_b2) (fun _ => rfl) (fun _ => rfl) (fun _ => trivial) (fun _ h => h) 8000 (a.natAbs : Int) (b.natAbs : Int) 16777216 (by omega) (by omega) (Int.ofNat_lt.mpr h) (by decide)
  rw [gcd_abs, ← absV_eq, ← absV_eq] at k
  refine ⟨k.1, ?_⟩
  unfold v_law_gcd TL.letV
  rw [k.2]
theorem lowest (n d s : Int) (hd : d ≠ 0) (hs : s = if d < 0 then -((Int.gcd n d : Nat) : Int) else ((Int.gcd n d : Nat) : Int)) : (n.fdiv s, d.fdiv s) = fr (Rat.divInt n d) := by
  have hg : 0 < ((Int.gcd n d : Nat) : Int) := by
    have := Int.gcd_pos_of_ne_zero_right n hd
    omega
  obtain ⟨x, hx⟩ : ((Int.gcd n d : Nat) : Int) ∣ n := Int.gcd_dvd_left ..
  obtain ⟨y, hy⟩ : ((Int.gcd n d : Nat) : Int) ∣ d := Int.gcd_dvd_right ..
  unfold fr
  rw [Rat.num_divInt, Rat.den_divInt, if_neg hd, Int.gcd_comm d n]
  generalize hgg : Int.gcd n d = g at hg hx hy hs
  have hy' : (y.natAbs : Int) * g = d.natAbs := by
    rw [hy, Int.natAbs_mul]; push_cast; simp [Int.mul_comm]
  have hden : ((d.natAbs / g : Nat) : Int) = y.natAbs := by
    have : d.natAbs = y.natAbs * g := by exact_mod_cast hy'.symm
    rw [this, Nat.mul_div_cancel _ (by omega)]
  rw [hden]
  by_cases h : d < 0
  · rw [if_pos h] at hs
    have hyn : y < 0 := by
      rw [hy] at h
      exact Int.neg_of_mul_neg_left (by rw [Int.mul_comm]; exact h) (by omega)
    have hsg : d.sign = -1 := Int.sign_eq_neg_one_of_neg h
    rw [hsg, hs, hx, hy]
    have e1 : (-1 * ((g : Int) * x)) / (g : Int) = -x := by
      rw [show -1 * ((g : Int) * x) = (g : Int) * (-x) by simp [Int.mul_neg], Int.mul_ediv_cancel_left _ (by omega)]
    have e2 : ((g : Int) * x).fdiv (-(g : Int)) = -x := by
      rw [show (g : Int) * x = (-(g : Int)) * (-x) by simp [Int.neg_mul_neg], Int.mul_fdiv_cancel_left _ (by omega)]
    have e3 : ((g : Int) * y).fdiv (-(g : Int)) = -y := by
      rw [show (g : Int) * y = (-(g : Int)) * (-y) by simp [Int.neg_mul_neg], Int.mul_fdiv_cancel_left _ (by omega)]
    rw [e1, e2, e3]
    congr 1; omega
  · rw [if_neg h] at hs
    have hyp : 0 < y := by
      have h1 : 0 < d := by omega
      rw [hy] at h1
      exact Int.pos_of_mul_pos_left (by rw [Int.mul_comm]; exact h1) (by omega)
    have hsg : d.sign = 1 := Int.sign_eq_one_of_pos (by omega)
    rw [hsg, hs, hx, hy, Int.one_mul, Int.mul_ediv_cancel_left _ (by omega), Int.mul_fdiv_cancel_left _ (by omega), Int.mul_fdiv_cancel_left _ (by omega)]
    congr 1; omega
theorem divG_of {n d s : Int} (hd : d ≠ 0) (hb : d.natAbs < 2 ^ 8000) (hs : s = if d < 0 then -((Int.gcd n d : Nat) : Int) else ((Int.gcd n d : Nat) : Int)) : TL.divG s := by
  have hg : 0 < Int.gcd n d := Int.gcd_pos_of_ne_zero_right n hd
  have hle : Int.gcd n d ≤ d.natAbs := Nat.le_of_dvd (by omega) (Int.gcd_dvd_natAbs_right n d)
  have ha : s.natAbs = Int.gcd n d := by rw [hs]; split <;> omega
  refine ⟨fun e => by rw [e] at ha; simp at ha; omega, ?_⟩
  rw [ha]
  have h1 : Int.gcd n d < 2 ^ 8000 := by omega
  have := (Nat.log2_lt (by omega)).mpr h1
  omega
theorem fractionOf_ok (n d : Int) (hd : d ≠ 0) (hb : d.natAbs < 2 ^ 8000) : g_fraction_of n d ∧ v_fraction_of n d = fr (Rat.divInt n d) := by
  obtain ⟨g1, g2⟩ := commonPart_ok n d hb
  have hz : TL.eqV d 0 = false := decide_eq_false hd
  have hs : cond (decide (d < 0)) ((0 : Int) - ((Int.gcd n d : Nat) : Int)) ((Int.gcd n d : Nat) : Int) = if d < 0 then -((Int.gcd n d : Nat) : Int) else ((Int.gcd n d : Nat) : Int) := by
    by_cases h : d < 0
    · rw [if_pos h, decide_eq_true h, cond_true, Int.zero_sub]
    · rw [if_neg h, decide_eq_false h, cond_false]
  constructor
  · unfold g_fraction_of
    rw [hz]
    refine ⟨(nofun), fun _ => ⟨g1, fun t5 e s e2 => ?_⟩⟩
    rw [e, g2, hs] at e2
    exact ⟨divG_of hd hb e2, divG_of hd hb e2⟩
  · unfold v_fraction_of TL.letV
    rw [hz, cond_false, g2]
    dsimp only
    rw [hs]
    exact lowest n d _ hd rfl
theorem lawPart_ok (n d : Int) (hd : d ≠ 0) (hb : d.natAbs < 2 ^ 8000) : g_law_part n d ∧ v_law_part n d = fr (Rat.divInt n d) := by
  obtain ⟨g1, g2⟩ := lawGcd_ok n d hb
  have hs : cond (decide (0 < d)) ((Int.gcd n d : Nat) : Int) ((0 : Int) - ((Int.gcd n d : Nat) : Int)) = if d < 0 then -((Int.gcd n d : Nat) : Int) else ((Int.gcd n d : Nat) : Int) := by
    by_cases h : d < 0
    · rw [if_pos h, decide_eq_false (by omega), cond_false, Int.zero_sub]
    · rw [if_neg h, decide_eq_true (by omega), cond_true]
  constructor
  · unfold g_law_part
    refine ⟨g1, fun t5 e s e2 => ?_⟩
    rw [e, g2, hs] at e2
    exact ⟨divG_of hd hb e2, divG_of hd hb e2⟩
  · unfold v_law_part TL.letV
    rw [g2]
    dsimp only
    rw [hs]
    exact lowest n d _ hd rfl
def Sm (q : Rat) : Prop := q.num.natAbs < 2 ^ 4000 ∧ q.den < 2 ^ 4000
theorem mulG_of {a b : Int} (ha : a.natAbs < 2 ^ 4000) (hb : b.natAbs < 2 ^ 4000) : TL.mulG a b := by
  have h1 := bits_le ha (by decide)
  have h2 := bits_le hb (by decide)
  unfold TL.mulG
  omega
theorem den_abs (q : Rat) : ((q.den : Nat) : Int).natAbs = q.den := Int.natAbs_natCast _
theorem mul_lt {x y : Nat} (hx : x < 2 ^ 4000) (hy : y < 2 ^ 4000) : x * y < 2 ^ 8000 := by
  rw [show (8000 : Nat) = 4000 + 4000 from rfl, Nat.pow_add]
  exact Nat.mul_lt_mul_of_lt_of_le hx (Nat.le_of_lt hy) (by omega)
section
variable {a b : Rat} (ha : Sm a) (hb : Sm b)
include ha hb
theorem dens_lt : (((a.den : Nat) : Int) * ((b.den : Nat) : Int)).natAbs < 2 ^ 8000 := by
  rw [Int.natAbs_mul, den_abs, den_abs]; exact mul_lt ha.2 hb.2
theorem dens_ne : ((a.den : Nat) : Int) * ((b.den : Nat) : Int) ≠ 0 := by
  have h1 := a.den_pos; have h2 := b.den_pos
  exact Int.mul_ne_zero (by omega) (by omega)
theorem gmul1 : TL.mulG a.num ((b.den : Nat) : Int) := mulG_of ha.1 (by rw [den_abs]; exact hb.2)
theorem gmul2 : TL.mulG ((a.den : Nat) : Int) ((b.den : Nat) : Int) := mulG_of (by rw [den_abs]; exact ha.2) (by rw [den_abs]; exact hb.2)
theorem plus_div : Rat.divInt (a.num * (b.den : Nat) + b.num * (a.den : Nat)) ((a.den : Nat) * (b.den : Nat) : Int) = a + b := by
  rw [Rat.add_def', ← Rat.divInt_ofNat]; push_cast; rfl
theorem minus_div : Rat.divInt (a.num * (b.den : Nat) - b.num * (a.den : Nat)) ((a.den : Nat) * (b.den : Nat) : Int) = a - b := by
  rw [Rat.sub_def', ← Rat.divInt_ofNat]; push_cast; rfl
theorem times_div : Rat.divInt (a.num * b.num) ((a.den : Nat) * (b.den : Nat) : Int) = a * b := by
  rw [Rat.mul_def', ← Rat.divInt_ofNat]; push_cast; rfl
theorem s_plus : g_plus (fr a) (fr b) ∧ v_plus (fr a) (fr b) = fr (a + b) := by
  have k := fractionOf_ok (a.num * (b.den : Nat) + b.num * (a.den : Nat)) ((a.den : Nat) * (b.den : Nat)) (dens_ne ha hb) (dens_lt ha hb)
  rw [plus_div ha hb] at k
  exact ⟨⟨gmul1 ha hb, gmul1 hb ha, gmul2 ha hb, k.1⟩, k.2⟩
theorem s_times : g_times (fr a) (fr b) ∧ v_times (fr a) (fr b) = fr (a * b) := by
  have k := fractionOf_ok (a.num * b.num) ((a.den : Nat) * (b.den : Nat)) (dens_ne ha hb) (dens_lt ha hb)
  rw [times_div ha hb] at k
  exact ⟨⟨mulG_of ha.1 hb.1, gmul2 ha hb, k.1⟩, k.2⟩
theorem s_law_plus : g_law_plus (fr a) (fr b) ∧ v_law_plus (fr a) (fr b) = fr (a + b) := by
  have k := lawPart_ok (a.num * (b.den : Nat) + b.num * (a.den : Nat)) ((a.den : Nat) * (b.den : Nat)) (dens_ne ha hb) (dens_lt ha hb)
  rw [plus_div ha hb] at k
  exact ⟨⟨gmul1 ha hb, gmul1 hb ha, gmul2 ha hb, k.1⟩, k.2⟩
theorem s_law_less : g_law_less (fr a) (fr b) ∧ v_law_less (fr a) (fr b) = fr (a - b) := by
  have k := lawPart_ok (a.num * (b.den : Nat) - b.num * (a.den : Nat)) ((a.den : Nat) * (b.den : Nat)) (dens_ne ha hb) (dens_lt ha hb)
  rw [minus_div ha hb] at k
  exact ⟨⟨gmul1 ha hb, gmul1 hb ha, gmul2 ha hb, k.1⟩, k.2⟩
theorem s_law_times : g_law_times (fr a) (fr b) ∧ v_law_times (fr a) (fr b) = fr (a * b) := by
  have k := lawPart_ok (a.num * b.num) ((a.den : Nat) * (b.den : Nat)) (dens_ne ha hb) (dens_lt ha hb)
  rw [times_div ha hb] at k
  exact ⟨⟨mulG_of ha.1 hb.1, gmul2 ha hb, k.1⟩, k.2⟩
theorem over_div (h0 : b ≠ 0) : Rat.divInt (a.num * (b.den : Nat)) ((a.den : Nat) * b.num : Int) = a / b := by
  rw [Rat.div_def, Rat.inv_def, ← Rat.divInt_mul_divInt, Rat.num_divInt_den]
theorem s_over (h0 : b ≠ 0) : g_over (fr a) (fr b) ∧ v_over (fr a) (fr b) = fr (a / b) := by
  have hn : b.num ≠ 0 := fun e => h0 (Rat.num_eq_zero.mp e)
  have h1 := a.den_pos
  have k := fractionOf_ok (a.num * (b.den : Nat)) ((a.den : Nat) * b.num) (Int.mul_ne_zero (by omega) hn) (by rw [Int.natAbs_mul, den_abs]; exact mul_lt ha.2 hb.1)
  rw [over_div ha hb h0] at k
  exact ⟨⟨gmul1 ha hb, mulG_of (by show ((a.den : Nat) : Int).natAbs < _; rw [den_abs]; exact ha.2) hb.1, k.1⟩, k.2⟩
theorem s_law_over (h0 : b ≠ 0) : (TL.mulG a.num (b.den : Nat) ∧ TL.mulG (a.den : Nat) b.num ∧ g_law_part (a.num * (b.den : Nat)) ((a.den : Nat) * b.num)) ∧ v_law_part (a.num * (b.den : Nat)) ((a.den : Nat) * b.num) = fr (a / b) := by
  have hn : b.num ≠ 0 := fun e => h0 (Rat.num_eq_zero.mp e)
  have h1 := a.den_pos
  have k := lawPart_ok (a.num * (b.den : Nat)) ((a.den : Nat) * b.num) (Int.mul_ne_zero (by omega) hn) (by rw [Int.natAbs_mul, den_abs]; exact mul_lt ha.2 hb.1)
  rw [over_div ha hb h0] at k
  exact ⟨⟨gmul1 ha hb, mulG_of (by show ((a.den : Nat) : Int).natAbs < _; rw [den_abs]; exact ha.2) hb.1, k.1⟩, k.2⟩
end
def Dv (N : Nat) (q : Rat) : Prop := ∃ z : Int, q * (N : Rat) = (z : Rat)
theorem Dv.den {N : Nat} (h0 : N ≠ 0) {q : Rat} (h : Dv N q) : q.den ∣ N := by
  obtain ⟨z, h⟩ := h
  have hN : (N : Rat) ≠ 0 := by intro e; exact h0 (by exact_mod_cast e)
  have e : q = Rat.divInt z N := by
    rw [Rat.divInt_eq_div]
    push_cast
    grind
  rw [e, Rat.den_divInt, if_neg (by omega), Int.natAbs_natCast]
  exact ⟨Int.gcd N z, by rw [Nat.div_mul_cancel (by exact_mod_cast Int.gcd_dvd_left (a := (N : Int)) (b := z))]⟩
theorem Sm_of {N K : Nat} {q : Rat} (h0 : N ≠ 0) (h : Dv N q) (hk : -(K : Rat) ≤ q ∧ q ≤ (K : Rat)) (hb : K * N < 2 ^ 4000) (hN : N < 2 ^ 4000) : Sm q := by
  have hd := Nat.le_of_dvd (by omega) (h.den h0)
  have hp := q.den_pos
  have hq : (0 : Rat) < (q.den : Rat) := by exact_mod_cast hp
  have e : q * (q.den : Rat) = (q.num : Rat) := by
    have := Rat.num_divInt_den q
    rw [Rat.divInt_eq_div] at this
    have hq' : (q.den : Rat) ≠ 0 := Rat.ne_of_gt hq
    have h3 : ((q.num : Int) : Rat) / (((q.den : Nat) : Int) : Rat) * (q.den : Rat) = q.num := by
      rw [show (((q.den : Nat) : Int) : Rat) = (q.den : Rat) by norm_cast, Rat.div_mul_cancel hq']
    rw [this] at h3
    exact h3
  have h1 : q.num ≤ (K : Int) * q.den := by
    have : (q.num : Rat) ≤ (K : Rat) * (q.den : Rat) := by
      rw [← e]; exact Rat.mul_le_mul_of_nonneg_right hk.2 (Rat.le_of_lt hq)
    exact_mod_cast this
  have h2 : -((K : Int) * q.den) ≤ q.num := by
    have : -((K : Rat) * (q.den : Rat)) ≤ (q.num : Rat) := by
      rw [← e, ← Rat.neg_mul]; exact Rat.mul_le_mul_of_nonneg_right hk.1 (Rat.le_of_lt hq)
    refine Rat.intCast_le_intCast.mp ?_
    push_cast
    exact this
  have h3 : K * q.den ≤ K * N := Nat.mul_le_mul_left K hd
  refine ⟨?_, by omega⟩
  have h4 : ((K : Int) * (q.den : Nat)) = ((K * q.den : Nat) : Int) := by push_cast; rfl
  rw [h4] at h1 h2
  omega
section
variable {N M : Nat} {a b : Rat}
theorem Dv.add (h : Dv N a) (k : Dv N b) : Dv N (a + b) := by
  obtain ⟨x, h⟩ := h
  obtain ⟨y, k⟩ := k
  exact ⟨x + y, by rw [Rat.add_mul, h, k]; push_cast; rfl⟩
theorem Dv.neg (h : Dv N a) : Dv N (-a) := by
  obtain ⟨x, h⟩ := h
  exact ⟨-x, by rw [Rat.neg_mul, h]; push_cast; rfl⟩
theorem Dv.sub (h : Dv N a) (k : Dv N b) : Dv N (a - b) := by
  rw [Rat.sub_eq_add_neg]; exact h.add k.neg
theorem Dv.mul (h : Dv N a) (k : Dv M b) : Dv (N * M) (a * b) := by
  obtain ⟨x, h⟩ := h
  obtain ⟨y, k⟩ := k
  refine ⟨x * y, ?_⟩
  push_cast
  rw [← h, ← k]
  grind
theorem Dv.lift (h : Dv N a) (M : Nat) : Dv (N * M) a := by
  obtain ⟨x, h⟩ := h
  refine ⟨x * M, ?_⟩
  push_cast
  rw [← h]
  grind
theorem Dv.int (N : Nat) (z : Int) : Dv N (z : Rat) := ⟨z * N, by push_cast; rfl⟩
theorem Dv.zero (N : Nat) : Dv N 0 := Dv.int N 0
theorem Dv.one (N : Nat) : Dv N 1 := Dv.int N 1
theorem Dv.frac (z : Int) {n : Nat} (h : n ≠ 0) : Dv n (Rat.divInt z n) := ⟨z, by
  have hN : (n : Rat) ≠ 0 := by intro e; exact h (by exact_mod_cast e)
  rw [Rat.divInt_eq_div]
  push_cast
  grind⟩
theorem Dv.sum {l : List Rat} (h : ∀ x ∈ l, Dv N x) : Dv N l.sum := by
  induction l with
  | nil => exact Dv.zero N
  | cons x l ih => rw [List.sum_cons]; exact (h x List.mem_cons_self).add (ih fun y hy => h y (List.mem_cons_of_mem _ hy))
end
theorem rat_sum_nn {l : List Rat} (h : ∀ x ∈ l, 0 ≤ x) : 0 ≤ l.sum := by
  induction l with
  | nil => exact Rat.le_refl
  | cons x l ih =>
    rw [List.sum_cons]
    exact Rat.add_nonneg (h x List.mem_cons_self) (ih fun y hy => h y (List.mem_cons_of_mem _ hy))
section
variable {N K : Nat} (h0 : N ≠ 0) (hK : K * N < 2 ^ 4000) (hN : N < 2 ^ 4000) {l : List Rat} (hl : ∀ x ∈ l, Dv N x ∧ 0 ≤ x) (hs : l.sum ≤ (K : Rat))
include h0 hK hN hl hs
end
end H
namespace H
set_option autoImplicit false
open PySem PySem.Spec PyProof.Rows L2 U
end H
namespace H
set_option autoImplicit false
open PySem PySem.Spec PyProof.Rows L2 U
end H
namespace H
set_option autoImplicit false
open PySem PySem.Spec PyProof.Rows L2 U
end H
namespace H
set_option autoImplicit false
open PySem L2 U
end H
namespace H
set_option autoImplicit false
open PySem PySem.Spec PyProof.Rows L2 U
end H
namespace H
set_option autoImplicit false
open PySem L2 U
end H
namespace TL
set_option autoImplicit false
open PySem L2 U H
variable {α β γ : Type}
end TL
namespace U
set_option autoImplicit false
open PySem PySem.Spec PyProof.Rows L2
section
variable {X : Cx} {c : Cc} {pr : Bool} {E : XK} {pos : Pos}
end
end U
namespace U
set_option autoImplicit false
open PySem PySem.Spec PyProof.Rows L2
section
variable {c : Cc} {σ : L2.St} {H H' : Hp} {ρ : En} {Z Z' : Addr → Prop} {B B' : Hp}
end
section
variable {X : Cx} {c : Cc} {E : XK} {elt tg iter tg1 iter1 : Expr} {ifs ifs1 : List Expr} {fi fi1 : IF} {t t1 : Tg} {cs cs1 : TF} {f : EF} {pos : Pos} {tv tv1 vs vs1 : List Nat}
end
section
variable {X : Cx} {c : Cc} {E : XK} {tg e a b s : Expr} {ps : List Pk} {p pos : Pos}
end
end U
namespace U
set_option autoImplicit false
open PySem PySem.Spec PyProof.Rows L2
def dSortR : List D → Option (Bool × D)
  | [.lst ds] => match intsD ds with
    | some ns => some (true, .lst ((sortI ns).reverse.map .int))
    | none => none
  | _ => none
theorem down_one (ns : List Int) : ns.mergeSort (fun a b => decide (b ≤ a)) = (sortI ns).reverse := by
  have h1 : (ns.mergeSort (fun a b => decide (b ≤ a))).reverse = sortI ns := by
    refine sorted_one ((List.reverse_perm _).trans ((List.mergeSort_perm ns _).trans (sortI_perm ns).symm)) ?_ (sortI_sorted ns)
    rw [List.pairwise_reverse]
    have := List.pairwise_mergeSort (le := fun a b : Int => decide (b ≤ a)) (fun a b c h1 h2 => by simp at *; omega) (fun a b => by simp; omega) ns
    exact this.imp fun h => of_decide_eq_true h
  rw [← h1, List.reverse_reverse]
theorem each_ints : ∀ {ns : List Int} {us : List Value}, Vals (ns.map V.int) us → PySem.W.EachIs (fun u (n : Int) => RelV (V.int n) u) us ns
  | [], _, h => by cases h; exact .nil
  | n :: ns, _, h => by
    cases h with
    | cons h1 h2 => exact .cons h1 (each_ints h2)
theorem ints_each {us : List Value} {ns : List Int} (h : PySem.W.EachIs (fun u (n : Int) => RelV (V.int n) u) us ns) : Vals (ns.map V.int) us := by
  induction h with
  | nil => exact .nil
  | cons h1 h2 ih => exact .cons h1 ih
section
variable {X : Cx} {c : Cc}
def rSortR (K : PySem.W.Frag) : List V → Hp → VK → Prop := fun vs H Q => ∃ (a : Addr) (ns : List Int), vs = [V.ref a] ∧ SqL K H a (ns.map V.int) ∧ ∀ p, H p = none → Q (.ref p) (upd H p (.lst ((sortI ns).reverse.map V.int)))
theorem cr_sortR (hu : X.A.units + 64 < cLine) : CallRK X (.builtin "sorted") [Str.ofString "reverse"] (fun vs zs H Q => zs = [.bl true] ∧ rSortR X.K vs H Q) := by
  intro pins s σ H vs zs us ws Q I r rz h
  obtain ⟨rfl, a, ns, rfl, hq, q⟩ := h
  obtain ⟨u, rfl, rx⟩ := vals1 r
  cases (show u = Value.ref a from rx)
  obtain ⟨w1, rfl, e1⟩ := vals1 rz
  cases (show w1 = Value.bool true from e1)
  obtain ⟨its, rv, p, hz⟩ := I.list hq
  have e0 := each_ints rv
  rw [List.length_map] at hz
  have er : PySem.W.EachIs (fun u (n : Int) => ∃ as, Reads s.heap u (PyData.int n) as) its ns := e0.mono fun u n h => by
    obtain ⟨t, rfl⟩ := h
    exact ⟨_, .int n t⟩
  refine PySem.W.sorted_rev_data (b := true) (enc := fun n : Int => PyData.int n) (bs := ns) (show s.heap.IsList a its.toArray from p.isList) e0 er (PySem.W.AllAlike.of fun _ _ => rfl) (PySem.W.Sortable.others fun _ => ⟨(fun z => nomatch z), (fun _ z => nomatch z)⟩) hz ?_ fun out ho eo => ?_
  · intro n _
    have : (PyData.int n).depth ≤ 8 := by simp [PyData.depth]
    omega
  · rw [PySem.W.dataGe_int (fun n : Int => n), down_one] at eo
    obtain ⟨ep, he'⟩ := PyProof.Rows.sortedAll_at s.heap its out.toArray
    have k1 := ints_each eo
    have hlen : ((sortI ns).reverse.map V.int).length ≤ sizeLine := by
      rw [List.length_map, List.length_reverse, (sortI_perm ns).length_eq]; exact hz
    exact ⟨.ref _, upd H (s.heap.objs.size + 1) (.lst ((sortI ns).reverse.map V.int)), I.laid (t' := s.toks) (fun _ _ => PyProof.Rows.sortedAll_old) (Nat.le_succ _) ⟨hlen, out, ep, k1, he'⟩, rfl, q _ (I.hok.fresh (Nat.le_succ _))⟩
theorem gs_sortR (hK : X.K = c.K) : GSN c dSortR (rSortR X.K) := by
  intro A H vs ds fr d Q h e k
  unfold dSortR at e
  split at e
  case h_2 => cases e
  rename_i ds
  cases q : intsD ds with
  | none => rw [q] at e; cases e
  | some ns =>
    rw [q] at e
    cases e
    obtain ⟨a, rfl, h1⟩ := one_ints hK h q
    exact ⟨a, ns, rfl, h1, fun p np => k _ _ (new_lst np (repL_ints _))⟩
theorem b_sortedR {E : XK} {e : Expr} {ps : List Pk} {p p2 pos kpos : Pos} {j : Nat} {n : Nat} (hr : Room n X.A) (hK : X.K = c.K) (hm : X.mg "sorted" = none) (ha : DPs X c E [e] ps) (hg : Gl X "sorted" := by rfl)
    (he : backTo pos (starEach [e] X.env) = (false, eval e X.env) :: backTo pos (starEach [] X.env) := by rfl) (hpl : (backTo pos (starEach [e] X.env)).any (·.1) = false := by rfl)
    (hall : (backToKw pos (keywordEach [⟨some "reverse", .Constant (.bool true) j p2, kpos⟩] X.env)).all (·.1.isSome) = true := by rfl) (hnone : (backToKw pos (keywordEach [⟨some "reverse", .Constant (.bool true) j p2, kpos⟩] X.env)).any (·.1.isNone) = false := by rfl) (hks : (backToKw pos (keywordEach [⟨some "reverse", .Constant (.bool true) j p2, kpos⟩] X.env)).filterMap (·.1) = [Str.ofString "reverse"] := by rfl) :
    DE X c E (.Call (.Name "sorted" p) [e] [⟨some "reverse", .Constant (.bool true) j p2, kpos⟩] pos) (opN dSortR ps) := by
  refine de_opN (gs_sortR hK) ha fun {t} h => ?_
  have := pe_callBK (p := p) (cr_sortR (by have := hr.un; omega)) hg hm (by rfl) h (pk_cons (kpos := kpos) (pe_bl (b := true) (j := j) (pos := p2)) pk_nil) (by decide) (by decide) he hpl hall hnone hks
  exact pe_imp this fun σ H Q hh => by
    have e1 : (fun vs H1 => rSortR X.K vs H1 Q) = fun vs H1 => ([V.bl true] = [V.bl true] ∧ rSortR X.K vs H1 Q) := by
      funext vs H1
      exact propext ⟨fun z => ⟨rfl, z⟩, And.right⟩
    show t σ H (fun vs H1 => [V.bl true] = [V.bl true] ∧ rSortR X.K vs H1 Q)
    rw [← e1]
    exact hh
end
end U
namespace U
set_option autoImplicit false
open PySem PySem.Spec PyProof.Rows L2
theorem tuple_mul1 (l : Addr) (items : Array Value) (n : Nat) (dd : Option Addr) (sl : Array (Option Value)) (u : Tok) :
    Meets (Builtin.«tuple.__mul__» ⟨[.ref l, .int 1 u], []⟩) (fun _ R s => s.heap.get? l = some { cls := .type "tuple", dict := dd, data := .seq items n, slots := sl } ∧ R (.ok (.ret (Value.ref l))) s) :=
  .of_wp fun prog w A R s h => by
    obtain ⟨hp, g, d, tk, os⟩ := s
    obtain ⟨hl, h⟩ := h
    have f1 := AutoSeq1.idx_int
    have c0 : (decide ((1 : Int) < -(2 ^ 63)) || decide ((1 : Int) ≥ 2 ^ 63)) = false := by decide
    have c1 : (items.isEmpty || (1 : Int) == 1) = true := by rw [show ((1 : Int) == 1) = true from rfl, Bool.or_true]
    wp_walk using wpAny_loadPart' hl
    repeat (first
      | (refine wpAny_ite_false (decide_eq_false (by rw [c0]; exact Bool.false_ne_true)) ?_; wp_walk using wpAny_loadPart' hl)
      | (refine wpAny_ite_true (decide_eq_true c1) ?_; wp_walk using wpAny_loadPart' hl))
    exact ⟨_, rfl, h⟩
def rRepT1 (K : PySem.W.Frag) : R2 := fun x y H Q => ∃ l xs, x = .ref l ∧ y = .int 1 ∧ SqT K H l xs ∧ Q (.ref l) H
section
variable {X : Cx} {c : Cc} {E : XK} {a b : Expr} {p q : Pk} {pos : Pos}
theorem op_repT1 : OpR X (binaryOp .Mult) (rRepT1 X.K) := by
  intro pins s σ H x y v u Q I rx ry h
  obtain ⟨l, xs, rfl, rfl, hT, q⟩ := h
  cases rx
  obtain ⟨t, rfl⟩ := ry
  obtain ⟨its, r, ⟨⟨cls, dd, data, sl⟩, ho, hc, n, hd⟩, hs⟩ := I.tuple hT
  simp only at hc hd
  subst hc hd
  exact wpAny_binaryOp_repeat_ref (T := "tuple") (U := "int") (by decide) ⟨_, ho, rfl⟩ (fun s' => typeIs_int s' 1 t) noFill_tuple_mul F.fills_int_mul F.slot_int_rmul repeat_tuple F.slot_int_index.lookup
    (call_meets F.slot_int_rmul (typeIs_int s 1 t) F.entry_int_rmul (F.args_int_rmul_2 _ _) (int_rmul_tuple 1 t l its.toArray n dd sl)
      ⟨ho, rfl, ⟨_, ho, rfl⟩, call_meets F.slot_tuple_mul ⟨_, ho, rfl⟩ F.entry_tuple_mul (F.args_tuple_mul_2 _ _) (tuple_mul1 l its.toArray n dd sl t) ⟨ho, .ref l, H, I, rfl, q⟩⟩)
def dMulA (x y : D) : Option (Bool × D) := match x, y with
  | .tup xs, .int 1 => some (false, .tup xs)
  | x, y => dMul x y
theorem gs_mulA (hK : X.K = c.K) : GS2 c dMulA (fun x y H Q => (rI CMulW (fun i j => .int (i * j)) x y H Q ∨ rRep x y H Q ∨ rRepT X.K x y H Q) ∨ rRepT1 X.K x y H Q) := by
  intro A H x y d1 d2 fr d Q h1 h2 e k
  unfold dMulA at e
  split at e
  · cases e
    obtain ⟨a, us, rfl, ha, ra⟩ := repT_tup h1
    exact .inr ⟨a, us, rfl, repT_int h2, by rw [hK]; exact ha, k _ H (new_self (.tup ha ra))⟩
  · exact .inl (gs_mul hK A H x y d1 d2 fr d Q h1 h2 e k)
theorem e_mulA (hK : X.K = c.K) (ha : DP X c E a p) (hb : DP X c E b q) : DE X c E (.BinOp a .Mult b pos) (op2 dMulA p q) := de_op2 (gs_mulA hK) ha hb fun h h' => pe_op (or_mul.or op_repT1) h h'
end
end U
namespace TL
set_option autoImplicit false
open PySem PySem.Spec PyProof.Rows L2 U
theorem t_sortR (l : List Int) : qN dSortR [eL .int l] = .ok (eL .int (sortI l).reverse) := by
  rw [qN_def]
  show oV (dSortR [.lst (l.map .int)]) = _
  unfold dSortR
  dsimp only
  rw [intsD_of]; rfl
end TL
namespace TL
open PySem PySem.Spec PyProof.Rows L2 U
end TL
namespace TL
open PySem PySem.Spec PyProof.Rows L2 U
def repTA (n : Nat) (k : Int) : Prop := n ≠ 0 ∧ 1 ≤ k ∧ k ≤ 1000 ∧ n ≤ 1000
theorem t_repTA {α : Type} {e : α → D} {l : List α} {k : Int} (h : repTA l.length k) : q2 dMulA (eT e l) (.int k) = .ok (eT e (repV l k)) := by
  by_cases q : k = 1
  · subst q
    rw [q2_def]
    show oV (some (false, D.tup (l.map e))) = _
    have : repV l 1 = l := by
      unfold repV
      show (List.replicate 1 l).flatten = l
      simp
    rw [this]; rfl
  · have := t_repT (e := e) (l := l) (k := k) ⟨h.1, by have := h.2.1; omega, h.2.2.1, h.2.2.2⟩
    rw [q2_def] at this ⊢
    have e1 : dMulA (eT e l) (.int k) = dMul (eT e l) (.int k) := by
      unfold dMulA eT
      split
      · rename_i _ _ _ h2
        cases h2; exact absurd rfl q
      · rfl
    rw [e1]; exact this
end TL
namespace U
open PySem PySem.Spec PyProof.Rows L2
instance : FN dSortR true := ⟨fun x r h => by
  unfold dSortR at h
  split at h
  · split at h
    · cases h; rfl
    · cases h
  · cases h⟩
end U
namespace G_k57_the_bound_of_means
set_option autoImplicit false
open PySem PySem.Spec PyProof.Rows L2 U
def top (i : Nat) : Stmt := PySem.Challenge.pw_onlylast_k57_the_bound_of_means.main.body.getD i (.Pass ⟨0, 0, 0, 0⟩)
abbrev s_common_part : Stmt := top 6
abbrev s_fraction_of : Stmt := top 7
abbrev s_plus : Stmt := top 8
abbrev s_times : Stmt := top 9
abbrev s_over : Stmt := top 10
abbrev s_pair_ahead : Stmt := top 12
abbrev s_mean_cost : Stmt := top 13
abbrev s_in_order_all : Stmt := top 15
abbrev s_best_cost : Stmt := top 14
abbrev s_law_box : Stmt := top 17
abbrev s_law_take : Stmt := top 18
abbrev s_law_pick : Stmt := top 19
abbrev s_law_same : Stmt := top 20
abbrev s_law_gcd : Stmt := top 21
abbrev s_law_part : Stmt := top 22
abbrev s_law_plus : Stmt := top 23
abbrev s_law_times : Stmt := top 24
abbrev s_law_less : Stmt := top 25
abbrev s_law_over : Stmt := top 26
abbrev s_law : Stmt := top 27
structure Fx (K : PySem.W.Frag) (mg : Str → Option Value) : Prop where
  n_common_part : Nm K mg "common_part" s_common_part
  n_fraction_of : Nm K mg "fraction_of" s_fraction_of
  n_plus : Nm K mg "plus" s_plus
  n_times : Nm K mg "times" s_times
  n_over : Nm K mg "over" s_over
  n_pair_ahead : Nm K mg "pair_ahead" s_pair_ahead
  n_mean_cost : Nm K mg "mean_cost" s_mean_cost
  n_in_order_all : Nm K mg "in_order_all" s_in_order_all
  n_best_cost : Nm K mg "best_cost" s_best_cost
  n_law_box : Nm K mg "_law_box" s_law_box
  n_law_take : Nm K mg "_law_take" s_law_take
  n_law_pick : Nm K mg "_law_pick" s_law_pick
  n_law_same : Nm K mg "_law_same" s_law_same
  n_law_gcd : Nm K mg "_law_gcd" s_law_gcd
  n_law_part : Nm K mg "_law_part" s_law_part
  n_law_plus : Nm K mg "_law_plus" s_law_plus
  n_law_times : Nm K mg "_law_times" s_law_times
  n_law_less : Nm K mg "_law_less" s_law_less
  n_law_over : Nm K mg "_law_over" s_law_over
  n_law : Nm K mg "law" s_law
  k_NOUGHT : ConT K mg "NOUGHT" [0, 1]
  k_ONE : ConT K mg "ONE" [1, 1]
  m_abs : mg "abs" = none
  m_bool : mg "bool" = none
  m_enumerate : mg "enumerate" = none
  m_int : mg "int" = none
  m_isinstance : mg "isinstance" = none
  m_len : mg "len" = none
  m_max : mg "max" = none
  m_min : mg "min" = none
  m_range : mg "range" = none
  m_sorted : mg "sorted" = none
  m_str : mg "str" = none
  m_sum : mg "sum" = none
  m_tuple : mg "tuple" = none
  m_zip : mg "zip" = none
def b_pair_ahead : SF :=
    (sRet (fCall H.d_over [(.val (op2 dIx (.var 0) (.var 1))), (.val (fCall H.d_plus [(.val (op2 dIx (.var 0) (.var 1))), (.val (op2 dIx (.var 0) (.var 2)))]))]))
def d_pair_ahead : FD := runF 3 3 false b_pair_ahead
def n_pair_ahead (weights1 one2 two3 : D) : M D :=
  (q2 dIx weights1 one2).bind fun t4 => (q2 dIx weights1 one2).bind fun t6 => (q2 dIx weights1 two3).bind fun t8 => (H.n_plus t6 t8).bind fun t10 => (H.n_over t4 t10).bind fun t12 => .ok t12
theorem sim_pair_ahead {weights1 one2 two3 : D} {v : D} (h : n_pair_ahead weights1 one2 two3 = .ok v) : d_pair_ahead [weights1, one2, two3] = .ok (false, v, []) := by
  unfold n_pair_ahead at h
  refine run_fq rfl ?_
  change O.wq (b_pair_ahead [some (false, weights1), some (false, one2), some (false, two3)]) _
  unfold b_pair_ahead
  change O.wq ((_ : SF) [_, _, _]) _
  obtain ⟨t4, e5, h⟩ := M.inv h
  obtain ⟨t6, e7, h⟩ := M.inv h
  obtain ⟨t8, e9, h⟩ := M.inv h
  obtain ⟨t10, e11, h⟩ := M.inv h
  obtain ⟨t12, e13, h⟩ := M.inv h
  replace h := M.ok.inj h
  subst h
  exact w_ret (ev_call (pes1 (pe_e (vx (ev_op2 (pe_v rfl) (pe_v rfl) (pg_v rfl) (pg_v rfl) e5))) (pes1 (pe_e (vx (ev_call (pes1 (pe_e (vx (ev_op2 (pe_v rfl) (pe_v rfl) (pg_v rfl) (pg_v rfl) e7))) (pes1 (pe_e (vx (ev_op2 (pe_v rfl) (pe_v rfl) (pg_v rfl) (pg_v rfl) e9))) pes0)) (pgs1 pg_e (pgs1 pg_e pgs0)) (H.sim_plus e11) rfl))) pes0)) (pgs1 pg_e (pgs1 pg_e pgs0)) (H.sim_over e13) rfl) rfl
def n_mean_cost_b1 (weights1 : D) (d41 : D) (s44 : D) (d46 : D) : M (D) :=
  (q2 dIx weights1 d41).bind fun t47 => (n_pair_ahead weights1 d46 d41).bind fun t49 => (H.n_times t47 t49).bind fun t51 => (H.n_times (D.tup [(D.int 2), (D.int 1)]) t51).bind fun t53 => (H.n_plus s44 t53).bind fun t55 => 
  .ok t55
def n_mean_cost_b2 (weights1 : D) (s38 : D) (d41 : D) : M (D) :=
  (oM (rg1 [d41])).bind fun l42 => (forS (n_mean_cost_b1 weights1 d41) l42 s38).bind fun s57 =>
  .ok s57
def b_mean_cost : SF :=
    (sSeq (sSet 1 (fC (.tup [.int 1, .int 1])))
    (sSeq (sFor (fRg rg1 [(.val (opN dLen [(.var 0)]))]) (gN 2)
    (sFor (fRg rg1 [(.var 2)]) (gN 3)
    (sSet 1 (fCall H.d_plus [(.var 1), (.val (fCall H.d_times [(.val (fTup [(fC (.int 2)), (fC (.int 1))])), (.val (fCall H.d_times [(.val (op2 dIx (.var 0) (.var 2))), (.val (fCall d_pair_ahead [(.var 0), (.var 3), (.var 2)]))]))]))]))))
    (sRet (fMv 1))))
def d_mean_cost : FD := runF 1 4 false b_mean_cost
def n_mean_cost (weights1 : D) : M D :=
  (qN dLen [weights1]).bind fun t2 => (oM (rg1 [t2])).bind fun l4 => (forS (n_mean_cost_b2 weights1) l4 (D.tup [D.int 1, D.int 1])).bind fun s60 =>
  .ok s60
theorem sim_mean_cost {weights1 : D} {v : D} (h : n_mean_cost weights1 = .ok v) : d_mean_cost [weights1] = .ok (false, v, []) := by
  unfold n_mean_cost at h
  refine run_fq rfl ?_
  change O.wq (b_mean_cost [some (false, weights1), none, none, none]) _
  unfold b_mean_cost
  change O.wq ((_ : SF) [_, _, _, _]) _
  refine w_nx (sv_set ev_c) ?_
  change O.wq ((_ : SF) [_, _, _, _]) _
  obtain ⟨t2, e3, h⟩ := M.inv h
  obtain ⟨l4, e5, h⟩ := M.inv h
  obtain ⟨s60, e61, h⟩ := M.inv h
  refine w_forS (fun (s38 : D) ρ => ∃ (o39 : Option D) (o40 : Option D), ρ = [some (false, weights1), some (false, s38), fo o39, fo o40]) (iv_rg (pes1 (pe_e (vx (ev_opN (pes1 (pe_v rfl) pes0) (pgs1 (pg_v rfl) pgs0) e3))) pes0) (pgs1 pg_e pgs0) e5) e61 ⟨none, none, rfl⟩ ?_ ?_
  · intro s38 d41 ρ r hI h
    obtain ⟨o39, o40, rfl⟩ := hI
    refine ⟨_, rfl, ?_⟩
    change O.wq ((_ : SF) [_, _, _, _]) _
    obtain ⟨l42, e43, h⟩ := M.inv h
    obtain ⟨s57, e58, h⟩ := M.inv h
    refine w_forSf (fun (s44 : D) ρ => ∃ (o45 : Option D), ρ = [some (false, weights1), some (false, s44), some (false, d41), fo o45]) (iv_rg (pes1 (pe_v rfl) pes0) (pgs1 (pg_v rfl) pgs0) e43) e58 ⟨o40, rfl⟩ ?_ ?_
    · intro s44 d46 ρ r hI h
      obtain ⟨o45, rfl⟩ := hI
      refine ⟨_, rfl, ?_⟩
      change O.wq ((_ : SF) [_, _, _, _]) _
      obtain ⟨t47, e48, h⟩ := M.inv h
      obtain ⟨t49, e50, h⟩ := M.inv h
      obtain ⟨t51, e52, h⟩ := M.inv h
      obtain ⟨t53, e54, h⟩ := M.inv h
      obtain ⟨t55, e56, h⟩ := M.inv h
      refine w_fin (sv_set (ev_call (pes1 (pe_v rfl) (pes1 (pe_e (vx (ev_call (pes1 (pe_e (vx (ev_tup (ea1 (vx ev_c) (ea1 (vx ev_c) ea0)) rfl))) (pes1 (pe_e (vx (ev_call (pes1 (pe_e (vx (ev_op2 (pe_v rfl) (pe_v rfl) (pg_v rfl) (pg_v rfl) e48))) (pes1 (pe_e (vx (ev_call (pes1 (pe_v rfl) (pes1 (pe_v rfl) (pes1 (pe_v rfl) pes0))) (pgs1 (pg_v rfl) (pgs1 (pg_v rfl) (pgs1 (pg_v rfl) pgs0))) (sim_pair_ahead e50) rfl))) pes0)) (pgs1 pg_e (pgs1 pg_e pgs0)) (H.sim_times e52) rfl))) pes0)) (pgs1 pg_e (pgs1 pg_e pgs0)) (H.sim_times e54) rfl))) pes0)) (pgs1 (pg_v rfl) (pgs1 pg_e pgs0)) (H.sim_plus e56) rfl)) ?_
      replace h := M.ok.inj h
      subst h
      exact ⟨some d46, rfl⟩
    · intro ρ hI
      obtain ⟨o59, rfl⟩ := hI
      replace h := M.ok.inj h
      subst h
      exact ⟨some d41, o59, rfl⟩
  · intro ρ hI
    obtain ⟨o62, o63, rfl⟩ := hI
    change O.wq ((_ : SF) [_, _, _, _]) _
    replace h := M.ok.inj h
    subst h
    exact w_ret (ev_mvF rfl) rfl
def n_in_order_all_b1 (d54 : D) (d57 : D) : M (Option D) :=
  (q2 dIx d57 (D.int 0)).bind fun t58 => (q2 dIx t58 (D.int 0)).bind fun t60 => (q2 dIx d54 (D.int 0)).bind fun t62 => (q2 dIx t62 (D.int 1)).bind fun t64 => (q2 dMul t60 t64).bind fun t66 => (q2 dIx d54 (D.int 0)).bind fun t68 => (q2 dIx t68 (D.int 0)).bind fun t70 => (q2 dIx d57 (D.int 0)).bind fun t72 => (q2 dIx t72 (D.int 1)).bind fun t74 => (q2 dMul t70 t74).bind fun t76 => (b2 dLe t66 t76).bind fun c78 => cond c78 (.ok (some (D.int 1))) (.ok none)
def n_in_order_all_b2 (s50 : D) (d54 : D) : M (D) :=
  (oM (seqI s50)).bind fun l55 => (lnN l55).bind fun u80 => (fmN (n_in_order_all_b1 d54) l55).bind fun l82 => (qN dLen [(D.lst l82)]).bind fun t84 => 
  (asI t84).bind fun k86 => (q1 (dSl none (some k86)) s50).bind fun t88 => (q2 dAdd t88 (D.lst [d54])).bind fun t90 => (asI t84).bind fun k92 => (q1 (dSl (some k92) none) s50).bind fun t94 => (q2 dAdd t90 t94).bind fun t96 => 
  .ok t96
def b_in_order_all : SF :=
    (sSeq (sSet 1 (fLst []))
    (sSeq (sFz [.var 1] (sFor (fIt (fVar 0)) (gN 2)
    (sSeq (sFz [.var 1] (sSet 3 (opN dLen [(.val (fLc [4] (fIt (fVar 1)) (gN 4) (tOp2 dLe (.val (op2 dMul (.val (op2 dIx (.val (op2 dIx (.var 4) (.val (fC (.int 0))))) (.val (fC (.int 0))))) (.val (op2 dIx (.val (op2 dIx (.var 2) (.val (fC (.int 0))))) (.val (fC (.int 1))))))) (.val (op2 dMul (.val (op2 dIx (.val (op2 dIx (.var 2) (.val (fC (.int 0))))) (.val (fC (.int 0))))) (.val (op2 dIx (.val (op2 dIx (.var 4) (.val (fC (.int 0))))) (.val (fC (.int 1)))))))) (fC (.int 1))))])))
    (sSet 1 (op2 dAdd (.val (op2 dAdd (.val (fSl (.var 1) none (some (fVar 3)))) (.val (fLst [(fVar 2)])))) (.val (fSl (.var 1) (some (fVar 3)) none)))))))
    (sFz [.var 1] (sRet (fMv 1)))))
def d_in_order_all : FD := runF 1 5 false b_in_order_all
def n_in_order_all (rows1 : D) : M D :=
  (oM (seqI rows1)).bind fun l2 => (forS n_in_order_all_b2 l2 (D.lst [])).bind fun s99 =>
  .ok s99
theorem sim_in_order_all {rows1 : D} {v : D} (h : n_in_order_all rows1 = .ok v) : d_in_order_all [rows1] = .ok (false, v, []) := by
  unfold n_in_order_all at h
  refine run_fq rfl ?_
  change O.wq (b_in_order_all [some (false, rows1), none, none, none, none]) _
  unfold b_in_order_all
  change O.wq ((_ : SF) [_, _, _, _, _]) _
  refine w_nx (sv_set (ev_lst ea0 rfl)) ?_
  change O.wq ((_ : SF) [_, _, _, _, _]) _
  refine w_fzs ?_
  change O.wq ((_ : SF) [_, _, _, _, _]) _
  obtain ⟨l2, e3, h⟩ := M.inv h
  obtain ⟨s99, e100, h⟩ := M.inv h
  refine w_forS (fun (s50 : D) ρ => ∃ (b51 : Bool) (o52 : Option D) (o53 : Option D), ρ = [some (false, rows1), some (b51, s50), fo o52, fo o53, none]) (iv_it (vx (ev_varF rfl)) e3) e100 ⟨false, none, none, rfl⟩ ?_ ?_
  · intro s50 d54 ρ r hI h
    obtain ⟨b51, o52, o53, rfl⟩ := hI
    refine ⟨_, rfl, ?_⟩
    change O.wq ((_ : SF) [_, _, _, _, _]) _
    refine w_fzs ?_
    change O.wq ((_ : SF) [_, _, _, _, _]) _
    obtain ⟨l55, e56, h⟩ := M.inv h
    obtain ⟨u80, e81, h⟩ := M.inv h
    obtain ⟨l82, e83, h⟩ := M.inv h
    obtain ⟨t84, e85, h⟩ := M.inv h
    refine w_nx (sv_set (ev_opN (pes1 (pe_e (vx (ev_fm (iv_it (vx (ev_varF rfl)) e56) rfl e81 e83 (fun d57 o h => by obtain ⟨t58, e59, h⟩ := M.inv h; obtain ⟨t60, e61, h⟩ := M.inv h; obtain ⟨t62, e63, h⟩ := M.inv h; obtain ⟨t64, e65, h⟩ := M.inv h; obtain ⟨t66, e67, h⟩ := M.inv h; obtain ⟨t68, e69, h⟩ := M.inv h; obtain ⟨t70, e71, h⟩ := M.inv h; obtain ⟨t72, e73, h⟩ := M.inv h; obtain ⟨t74, e75, h⟩ := M.inv h; obtain ⟨t76, e77, h⟩ := M.inv h; obtain ⟨c78, e79, h⟩ := M.inv h; cases c78 with | true => (replace h := cT h; skip; cases h; exact ⟨_, _, rfl, .inr ⟨(tv_op2 (pe_e (ex_op2 (pe_e (vx (ev_op2 (pe_e (vx (ev_op2 (pe_v rfl) (pe_e (vx ev_c)) (pg_v rfl) pg_e e59))) (pe_e (vx ev_c)) pg_e pg_e e61))) (pe_e (vx (ev_op2 (pe_e (vx (ev_op2 (pe_v rfl) (pe_e (vx ev_c)) (pg_v rfl) pg_e e63))) (pe_e (vx ev_c)) pg_e pg_e e65))) pg_e pg_e e67)) (pe_e (ex_op2 (pe_e (vx (ev_op2 (pe_e (vx (ev_op2 (pe_v rfl) (pe_e (vx ev_c)) (pg_v rfl) pg_e e69))) (pe_e (vx ev_c)) pg_e pg_e e71))) (pe_e (vx (ev_op2 (pe_e (vx (ev_op2 (pe_v rfl) (pe_e (vx ev_c)) (pg_v rfl) pg_e e73))) (pe_e (vx ev_c)) pg_e pg_e e75))) pg_e pg_e e77)) pg_e pg_e e79), _, _, rfl, (vx ev_c), rfl⟩⟩) | false => (replace h := cF h; cases h; exact ⟨_, _, rfl, .inl ⟨(tv_op2 (pe_e (ex_op2 (pe_e (vx (ev_op2 (pe_e (vx (ev_op2 (pe_v rfl) (pe_e (vx ev_c)) (pg_v rfl) pg_e e59))) (pe_e (vx ev_c)) pg_e pg_e e61))) (pe_e (vx (ev_op2 (pe_e (vx (ev_op2 (pe_v rfl) (pe_e (vx ev_c)) (pg_v rfl) pg_e e63))) (pe_e (vx ev_c)) pg_e pg_e e65))) pg_e pg_e e67)) (pe_e (ex_op2 (pe_e (vx (ev_op2 (pe_e (vx (ev_op2 (pe_v rfl) (pe_e (vx ev_c)) (pg_v rfl) pg_e e69))) (pe_e (vx ev_c)) pg_e pg_e e71))) (pe_e (vx (ev_op2 (pe_e (vx (ev_op2 (pe_v rfl) (pe_e (vx ev_c)) (pg_v rfl) pg_e e73))) (pe_e (vx ev_c)) pg_e pg_e e75))) pg_e pg_e e77)) pg_e pg_e e79), rfl, rfl⟩⟩))))) pes0) (pgs1 pg_e pgs0) e85)) ?_
    change O.wq ((_ : SF) [_, _, _, _, _]) _
    obtain ⟨k86, e87, h⟩ := M.inv h
    obtain ⟨t88, e89, h⟩ := M.inv h
    obtain ⟨t90, e91, h⟩ := M.inv h
    obtain ⟨k92, e93, h⟩ := M.inv h
    obtain ⟨t94, e95, h⟩ := M.inv h
    obtain ⟨t96, e97, h⟩ := M.inv h
    refine w_setXf (ex_op2 (pe_e (ex_op2 (pe_e (ex_sl (pe_v rfl) sp0 (sp1 (vx (ev_varF rfl)) e87) (pg_v rfl) e89)) (pe_e (vx (ev_lst (ea1 (vx (ev_varF rfl)) ea0) rfl))) pg_e pg_e e91)) (pe_e (ex_sl (pe_v rfl) (sp1 (vx (ev_varF rfl)) e93) sp0 (pg_v rfl) e95)) pg_e pg_e e97) (fun fr98 => ?_)
    replace h := M.ok.inj h
    subst h
    exact ⟨fr98, some d54, some t84, rfl⟩
  · intro ρ hI
    obtain ⟨b101, o102, o103, rfl⟩ := hI
    change O.wq ((_ : SF) [_, _, _, _, _]) _
    refine w_fz ?_
    change O.wq ((_ : SF) [_, _, _, _, _]) _
    replace h := M.ok.inj h
    subst h
    exact w_ret (ev_mvF rfl) rfl
def n_best_cost_b1 (s10 : D) (d12 : D) : M (D) :=
  (qN dLen [s10]).bind fun t13 => (mutN mApp s10 [(D.tup [d12, t13])]).bind fun r15 => 
  .ok r15.2
def n_best_cost_b2 (weights1 : D) (s40 : D) (d44 : D) : M (D) :=
  (asT2 d44).bind fun (p46, p47) => (asT2 p47).bind fun p49 => (qN dLen [weights1]).bind fun t50 => (q2 dSub t50 p46).bind fun t52 => (H.n_times p49.1 (D.tup [t52, (D.int 1)])).bind fun t54 => (H.n_plus s40 t54).bind fun t56 => 
  .ok t56
def b_best_cost : SF :=
    (sSeq (sPar [(2, (fC (.tup [.int 0, .int 1]))), (3, (fLst []))])
    (sSeq (sFor (fIt (fVar 0)) (gN 1)
    (sExp (fMut mApp 3 [(fTup [(fVar 1), (opN dLen [(.var 3)])])])))
    (sSeq (sFz [.var 3] (sFor (fEnum (fCall d_in_order_all [(.var 3)])) (gT [(gN 4), (gT [(gN 1), (gN 5)])])
    (sSet 2 (fCall H.d_plus [(.var 2), (.val (fCall H.d_times [(.var 1), (.val (fTup [(op2 dSub (.val (opN dLen [(.var 0)])) (.var 4)), (fC (.int 1))]))]))]))))
    (sRet (fMv 2)))))
def d_best_cost : FD := runF 1 6 false b_best_cost
def n_best_cost (weights1 : D) : M D :=
  (oM (seqI weights1)).bind fun l2 => (forS n_best_cost_b1 l2 (D.lst [])).bind fun s17 =>
  (n_in_order_all s17).bind fun t20 => (enN t20).bind fun l22 => (forS (n_best_cost_b2 weights1) l22 (D.tup [D.int 0, D.int 1])).bind fun s58 =>
  .ok s58
theorem sim_best_cost {weights1 : D} {v : D} (h : n_best_cost weights1 = .ok v) : d_best_cost [weights1] = .ok (false, v, []) := by
  unfold n_best_cost at h
  refine run_fq rfl ?_
  change O.wq (b_best_cost [some (false, weights1), none, none, none, none, none]) _
  unfold b_best_cost
  change O.wq ((_ : SF) [_, _, _, _, _, _]) _
  refine w_par ?_
  refine w_par1 ev_c ?_
  refine w_par1 (ev_lst ea0 rfl) ?_
  refine w_par0 ?_
  change O.wq ((_ : SF) [_, _, _, _, _, _]) _
  obtain ⟨l2, e3, h⟩ := M.inv h
  obtain ⟨s17, e18, h⟩ := M.inv h
  refine w_forS (fun (s10 : D) ρ => ∃ (o11 : Option D), ρ = [some (false, weights1), fo o11, some (false, (D.tup [D.int 0, D.int 1])), some (true, s10), none, none]) (iv_it (vx (ev_varF rfl)) e3) e18 ⟨none, rfl⟩ ?_ ?_
  · intro s10 d12 ρ r hI h
    obtain ⟨o11, rfl⟩ := hI
    refine ⟨_, rfl, ?_⟩
    change O.wq ((_ : SF) [_, _, _, _, _, _]) _
    obtain ⟨t13, e14, h⟩ := M.inv h
    obtain ⟨r15, e16, h⟩ := M.inv h
    refine w_fin (sv_exp (vx (ev_mut rfl (ea1 (vx (ev_tup (ea1 (vx (ev_varF rfl)) (ea1 (vx (ev_opN (pes1 (pe_v rfl) pes0) (pgs1 (pg_v rfl) pgs0) e14)) ea0)) rfl)) ea0) rfl e16))) ?_
    replace h := M.ok.inj h
    subst h
    exact ⟨some d12, rfl⟩
  · intro ρ hI
    obtain ⟨o19, rfl⟩ := hI
    change O.wq ((_ : SF) [_, _, _, _, _, _]) _
    refine w_fzs ?_
    change O.wq ((_ : SF) [_, _, _, _, _, _]) _
    obtain ⟨t20, e21, h⟩ := M.inv h
    obtain ⟨l22, e23, h⟩ := M.inv h
    obtain ⟨s58, e59, h⟩ := M.inv h
    refine w_forS (fun (s40 : D) ρ => ∃ (o41 : Option D) (o42 : Option D) (o43 : Option D), ρ = [some (false, weights1), fo o41, some (false, s40), some (false, s17), fo o42, fo o43]) (iv_enum (vx (ev_call (pes1 (pe_v rfl) pes0) (pgs1 (pg_v rfl) pgs0) (sim_in_order_all e21) rfl)) e23) e59 ⟨o19, none, none, rfl⟩ ?_ ?_
    · intro s40 d44 ρ r hI h
      obtain ⟨o41, o42, o43, rfl⟩ := hI
      replace h := M.inv h
      obtain ⟨⟨p46, p47⟩, e45, h⟩ := h
      (have hz := h; obtain rfl := asT2_inv e45; have h := hz; clear hz)
      replace h := M.inv h
      obtain ⟨p49, e48, h⟩ := h
      (have hz := h; obtain rfl := asT2_inv' e48; have h := hz; clear hz)
      refine ⟨_, rfl, ?_⟩
      change O.wq ((_ : SF) [_, _, _, _, _, _]) _
      obtain ⟨t50, e51, h⟩ := M.inv h
      obtain ⟨t52, e53, h⟩ := M.inv h
      obtain ⟨t54, e55, h⟩ := M.inv h
      obtain ⟨t56, e57, h⟩ := M.inv h
      refine w_fin (sv_set (ev_call (pes1 (pe_v rfl) (pes1 (pe_e (vx (ev_call (pes1 (pe_v rfl) (pes1 (pe_e (vx (ev_tup (ea1 (vx (ev_op2 (pe_e (vx (ev_opN (pes1 (pe_v rfl) pes0) (pgs1 (pg_v rfl) pgs0) e51))) (pe_v rfl) pg_e (pg_v rfl) e53)) (ea1 (vx ev_c) ea0)) rfl))) pes0)) (pgs1 (pg_v rfl) (pgs1 pg_e pgs0)) (H.sim_times e55) rfl))) pes0)) (pgs1 (pg_v rfl) (pgs1 pg_e pgs0)) (H.sim_plus e57) rfl)) ?_
      replace h := M.ok.inj h
      subst h
      exact ⟨some p49.1, some p46, some p49.2, rfl⟩
    · intro ρ hI
      obtain ⟨o60, o61, o62, rfl⟩ := hI
      change O.wq ((_ : SF) [_, _, _, _, _, _]) _
      replace h := M.ok.inj h
      subst h
      exact w_ret (ev_mvF rfl) rfl
def b_law_over : SF :=
    (sRet (fCall H.d_law_part [(.val (op2 dMul (.val (op2 dIx (.var 0) (.val (fC (.int 0))))) (.val (op2 dIx (.var 1) (.val (fC (.int 1))))))), (.val (op2 dMul (.val (op2 dIx (.var 0) (.val (fC (.int 1))))) (.val (op2 dIx (.var 1) (.val (fC (.int 0)))))))]))
def d_law_over : FD := runF 2 2 false b_law_over
def n_law_over (one1 two2 : D) : M D :=
  (q2 dIx one1 (D.int 0)).bind fun t3 => (q2 dIx two2 (D.int 1)).bind fun t5 => (q2 dMul t3 t5).bind fun t7 => (q2 dIx one1 (D.int 1)).bind fun t9 => (q2 dIx two2 (D.int 0)).bind fun t11 => (q2 dMul t9 t11).bind fun t13 => (H.n_law_part t7 t13).bind fun t15 => .ok t15
theorem sim_law_over {one1 two2 : D} {v : D} (h : n_law_over one1 two2 = .ok v) : d_law_over [one1, two2] = .ok (false, v, []) := by
  unfold n_law_over at h
  refine run_fq rfl ?_
  change O.wq (b_law_over [some (false, one1), some (false, two2)]) _
  unfold b_law_over
  change O.wq ((_ : SF) [_, _]) _
  obtain ⟨t3, e4, h⟩ := M.inv h
  obtain ⟨t5, e6, h⟩ := M.inv h
  obtain ⟨t7, e8, h⟩ := M.inv h
  obtain ⟨t9, e10, h⟩ := M.inv h
  obtain ⟨t11, e12, h⟩ := M.inv h
  obtain ⟨t13, e14, h⟩ := M.inv h
  obtain ⟨t15, e16, h⟩ := M.inv h
  replace h := M.ok.inj h
  subst h
  exact w_ret (ev_call (pes1 (pe_e (ex_op2 (pe_e (vx (ev_op2 (pe_v rfl) (pe_e (vx ev_c)) (pg_v rfl) pg_e e4))) (pe_e (vx (ev_op2 (pe_v rfl) (pe_e (vx ev_c)) (pg_v rfl) pg_e e6))) pg_e pg_e e8)) (pes1 (pe_e (ex_op2 (pe_e (vx (ev_op2 (pe_v rfl) (pe_e (vx ev_c)) (pg_v rfl) pg_e e10))) (pe_e (vx (ev_op2 (pe_v rfl) (pe_e (vx ev_c)) (pg_v rfl) pg_e e12))) pg_e pg_e e14)) pes0)) (pgs1 pg_e (pgs1 pg_e pgs0)) (H.sim_law_part e16) rfl) rfl
def n_law_b1 (b281 : D) (d274 : D) : M (D × D) :=
  (H.n_law_take b281 (D.int 9)).bind fun r282 => (q2 dAdd (D.int 1) r282.1).bind fun t284 => (H.n_law_pick r282.2 (D.lst [(D.int 1), t284, (D.int 1000)])).bind fun r286 => .ok (r286.1, r286.2)
def n_law_b2 (l290 : List D × D) (d294 : D) : M D :=
  (qN dSumA [(D.lst l290.1)]).bind fun t295 => (H.n_law_part d294 t295).bind fun t297 => .ok t297
def n_law_b3 (t303 : D) (d353 : D) (s356 : D) (d359 : D) : M (D) :=
  (q2 dIx t303 d359).bind fun t360 => (q2 dIx t303 d353).bind fun t362 => (H.n_law_times t360 t362).bind fun t364 => 
  (H.n_law_times (D.tup [(D.int 2), (D.int 1)]) t364).bind fun t366 => (q2 dIx t303 d359).bind fun t368 => (q2 dIx t303 d353).bind fun t370 => (H.n_law_plus t368 t370).bind fun t372 => (n_law_over t366 t372).bind fun t374 => (H.n_law_plus s356 t374).bind fun t376 => 
  .ok t376
def n_law_b4 (t303 : D) (s349 : D) (d353 : D) : M (D) :=
  (oM (rg1 [d353])).bind fun l354 => (forS (n_law_b3 t303 d353) l354 s349).bind fun s378 =>
  .ok s378
def n_law_b5 (d397 : D) : M D :=
  (asT2 d397).bind fun p399 => (q2 dAdd p399.1 (D.int 1)).bind fun t400 => (q2 dMul p399.2 t400).bind fun t402 => .ok t402
def n_law_b6 (script1 : D) (s248 : Unit) (d264 : D) : M (Fw (Unit) (D)) :=
  (H.n_law_box script1 d264).bind fun t265 => 
  (H.n_law_take t265 (D.int 8)).bind fun r267 => (q2 dAdd (D.int 1) r267.1).bind fun t269 => 
  (oM (rg1 [t269])).bind fun l272 => (lnN l272).bind fun u288 => (mapIO n_law_b1 l272 r267.2).bind fun l290 => 
  (oM (seqI (D.lst l290.1))).bind fun l292 => (lnN l292).bind fun u299 => (mapN (n_law_b2 l290) l292).bind fun l301 => (qN dTuple [(D.lst l301)]).bind fun t303 => 
  (n_mean_cost t303).bind fun t305 => (n_best_cost t303).bind fun t307 => 
  (q2 dAdd t269 (D.int 1)).bind fun t309 => (H.n_law_part (D.int 2) t309).bind fun t311 => (H.n_law_less (D.tup [(D.int 2), (D.int 1)]) t311).bind fun t313 => (H.n_law_times t307 t313).bind fun t315 => 
  (q2 dIx t305 (D.int 0)).bind fun t317 => (q2 dIx t307 (D.int 1)).bind fun t319 => (q2 dMul t317 t319).bind fun t321 => (q2 dIx t307 (D.int 0)).bind fun t323 => (q2 dIx t305 (D.int 1)).bind fun t325 => (q2 dMul t323 t325).bind fun t327 => (b2 dLt t321 t327).bind fun c329 => (nOr c329 ((q2 dIx t305 (D.int 0)).bind fun t331 => (q2 dIx t315 (D.int 1)).bind fun t333 => (q2 dMul t331 t333).bind fun t335 => (q2 dIx t315 (D.int 0)).bind fun t337 => (q2 dIx t305 (D.int 1)).bind fun t339 => (q2 dMul t337 t339).bind fun t341 => (b2 dGt t335 t341).bind fun c343 => .ok c343)).bind fun c345 => cond c345
    (.ok (.rt (D.bl false)))
    (
  (oM (rg1 [t269])).bind fun l347 => (forS (n_law_b4 t303) l347 (D.tup [(D.int 1), (D.int 1)])).bind fun s382 =>
  (H.n_law_same 40 t305 s382).bind fun t387 => (asB t387).bind fun c389 => (nN c389).bind fun c391 => cond c391
    (.ok (.rt (D.bl false)))
    ((qN dSortR [(D.lst l290.1)]).bind fun t393 => 
  (enN t393).bind fun l395 => (lnN l395).bind fun u404 => (mapN n_law_b5 l395).bind fun l406 => (qN dSumA [(D.lst l406)]).bind fun t408 => (qN dSumA [(D.lst l290.1)]).bind fun t410 => (H.n_law_part t408 t410).bind fun t412 => 
  (H.n_law_same 40 t307 t412).bind fun t414 => (asB t414).bind fun c416 => (nN c416).bind fun c418 => cond c418
    (.ok (.rt (D.bl false)))
    ((H.n_law_part (D.int 1) t269).bind fun t420 => (q2 dMulA (D.tup [t420]) t269).bind fun t422 => 
  (n_mean_cost t422).bind fun t425 => (q2 dAdd t269 (D.int 1)).bind fun t427 => (H.n_law_part t427 (D.int 2)).bind fun t429 => (H.n_law_same 40 t425 t429).bind fun t431 => (asB t431).bind fun c433 => (nN c433).bind fun c435 => (nOr c435 ((n_best_cost t422).bind fun t437 => (q2 dAdd t269 (D.int 1)).bind fun t439 => (H.n_law_part t439 (D.int 2)).bind fun t441 => (H.n_law_same 40 t437 t441).bind fun t443 => (asB t443).bind fun c445 => (nN c445).bind fun c447 => .ok c447)).bind fun c449 => cond c449
    (.ok (.rt (D.bl false)))
    (.ok (.nx ())))))
def b_law : SF :=
    (sSeq (sFor (fRg rg1 [(.val (opN dMax2 [(.val (fC (.int 4))), (.val (opN dMin2 [(.val (opN dLen [(.var 0)])), (.val (fC (.int 9)))]))]))]) (gN 1)
    (sSeq (sSet 2 (fCall H.d_law_box [(.var 0), (.var 1)]))
    (sSeq (sSet 3 (op2 dAdd (.val (fC (.int 1))) (.val (fCallIO H.d_law_take 2 [(.val (fC (.int 8)))]))))
    (sSeq (sFz [.var 3] (sSet 4 (fLc [15] (fRg rg1 [(.var 3)]) (gN 15) (tAll []) (fCallIO H.d_law_pick 2 [(.val (fLst [(fC (.int 1)), (op2 dAdd (.val (fC (.int 1))) (.val (fCallIO H.d_law_take 2 [(.val (fC (.int 9)))]))), (fC (.int 1000))]))]))))
    (sSeq (sFz [.var 4] (sSet 5 (opN dTuple [(.val (fLc [17] (fIt (fVar 4)) (gN 17) (tAll []) (fCall H.d_law_part [(.var 17), (.val (opN dSumA [(.var 4)]))])))])))
    (sSeq (sPar [(12, (fCall d_mean_cost [(.var 5)])), (13, (fCall d_best_cost [(.var 5)]))])
    (sSeq (sSet 6 (fCall H.d_law_times [(.var 13), (.val (fCall H.d_law_less [(.val (fTup [(fC (.int 2)), (fC (.int 1))])), (.val (fCall H.d_law_part [(.val (fC (.int 2))), (.val (op2 dAdd (.var 3) (.val (fC (.int 1)))))]))]))]))
    (sSeq (sIf (tOr' (tOp2 dLt (.val (op2 dMul (.val (op2 dIx (.var 12) (.val (fC (.int 0))))) (.val (op2 dIx (.var 13) (.val (fC (.int 1))))))) (.val (op2 dMul (.val (op2 dIx (.var 13) (.val (fC (.int 0))))) (.val (op2 dIx (.var 12) (.val (fC (.int 1)))))))) (tOp2 dGt (.val (op2 dMul (.val (op2 dIx (.var 12) (.val (fC (.int 0))))) (.val (op2 dIx (.var 6) (.val (fC (.int 1))))))) (.val (op2 dMul (.val (op2 dIx (.var 6) (.val (fC (.int 0))))) (.val (op2 dIx (.var 12) (.val (fC (.int 1)))))))))
    (sRet (fC (.bl false)))
    sNil)
    (sSeq (sSet 7 (fTup [(fC (.int 1)), (fC (.int 1))]))
    (sSeq (sFor (fRg rg1 [(.var 3)]) (gN 8)
    (sFor (fRg rg1 [(.var 8)]) (gN 14)
    (sSeq (sSet 16 (fCall H.d_law_times [(.val (op2 dIx (.var 5) (.var 14))), (.val (op2 dIx (.var 5) (.var 8)))]))
    (sSet 7 (fCall H.d_law_plus [(.var 7), (.val (fCall d_law_over [(.val (fCall H.d_law_times [(.val (fTup [(fC (.int 2)), (fC (.int 1))])), (.var 16)])), (.val (fCall H.d_law_plus [(.val (op2 dIx (.var 5) (.var 14))), (.val (op2 dIx (.var 5) (.var 8)))]))]))])))))
    (sSeq (sIf (tNo (tOf (.val (fCall (H.d_law_same 40) [(.var 12), (.var 7)]))))
    (sRet (fC (.bl false)))
    sNil)
    (sSeq (sSet 9 (opN dSortR [(.var 4)]))
    (sSeq (sFz [.var 9] (sSet 10 (fCall H.d_law_part [(.val (opN dSumA [(.val (fLc [18, 17] (fEnum (fVar 9)) (gT [(gN 18), (gN 17)]) (tAll []) (op2 dMul (.var 17) (.val (op2 dAdd (.var 18) (.val (fC (.int 1))))))))])), (.val (opN dSumA [(.var 4)]))])))
    (sSeq (sIf (tNo (tOf (.val (fCall (H.d_law_same 40) [(.var 13), (.var 10)]))))
    (sRet (fC (.bl false)))
    sNil)
    (sSeq (sSet 11 (op2 dMulA (.val (fTup [(fCall H.d_law_part [(.val (fC (.int 1))), (.var 3)])])) (.var 3)))
    (sFz [.var 11] (sIf (tOr' (tNo (tOf (.val (fCall (H.d_law_same 40) [(.val (fCall d_mean_cost [(.var 11)])), (.val (fCall H.d_law_part [(.val (op2 dAdd (.var 3) (.val (fC (.int 1))))), (.val (fC (.int 2)))]))])))) (tNo (tOf (.val (fCall (H.d_law_same 40) [(.val (fCall d_best_cost [(.var 11)])), (.val (fCall H.d_law_part [(.val (op2 dAdd (.var 3) (.val (fC (.int 1))))), (.val (fC (.int 2)))]))])))))
    (sRet (fC (.bl false)))
    sNil)))))))))))))))))
    (sRet (fC (.bl true))))
def d_law : FD := runF 1 19 false b_law
def n_law (script1 : D) : M D :=
  (qN dLen [script1]).bind fun t2 => (qN dMin2 [t2, (D.int 9)]).bind fun t4 => (qN dMax2 [(D.int 4), t4]).bind fun t6 => (oM (rg1 [t6])).bind fun l8 => (forN (σ := Unit) (ω := D) (n_law_b6 script1) l8 ()).bind fun z468 =>
  (match z468 with
  | .inl s451 => .ok (D.bl true)
  | .inr w => .ok w)
theorem sim_law {script1 : D} {v : D} (h : n_law script1 = .ok v) : d_law [script1] = .ok (false, v, []) := by
  unfold n_law at h
  refine run_fq rfl ?_
  change O.wq (b_law [some (false, script1), none, none, none, none, none, none, none, none, none, none, none, none, none, none, none, none, none, none]) _
  unfold b_law
  change O.wq ((_ : SF) [_, _, _, _, _, _, _, _, _, _, _, _, _, _, _, _, _, _, _]) _
  obtain ⟨t2, e3, h⟩ := M.inv h
  obtain ⟨t4, e5, h⟩ := M.inv h
  obtain ⟨t6, e7, h⟩ := M.inv h
  obtain ⟨l8, e9, h⟩ := M.inv h
  obtain ⟨z468, e452, h⟩ := M.inv h
  refine w_for (fun (s248 : Unit) ρ => ∃ (o249 : Option D) (j250 : Option (Bool × D)) (o251 : Option D) (o252 : Option D) (o253 : Option D) (o254 : Option D) (o255 : Option D) (o256 : Option D) (o257 : Option D) (o258 : Option D) (o259 : Option D) (o260 : Option D) (o261 : Option D) (o262 : Option D) (o263 : Option D), ρ = [some (false, script1), fo o249, j250, fo o251, fo o252, fo o253, fo o254, fo o255, fo o256, fo o257, fo o258, fo o259, fo o260, fo o261, fo o262, none, fo o263, none, none]) (FQ false) (iv_rg (pes1 (pe_e (vx (ev_opN (pes1 (pe_e (vx ev_c)) (pes1 (pe_e (vx (ev_opN (pes1 (pe_e (vx (ev_opN (pes1 (pe_v rfl) pes0) (pgs1 (pg_v rfl) pgs0) e3))) (pes1 (pe_e (vx ev_c)) pes0)) (pgs1 pg_e (pgs1 pg_e pgs0)) e5))) pes0)) (pgs1 pg_e (pgs1 pg_e pgs0)) e7))) pes0) (pgs1 pg_e pgs0) e9) e452 ⟨none, _, none, none, none, none, none, none, none, none, none, none, none, none, none, rfl⟩ ?_ ?_ ?_
  · intro s248 d264 ρ r hI h
    obtain ⟨o249, j250, o251, o252, o253, o254, o255, o256, o257, o258, o259, o260, o261, o262, o263, rfl⟩ := hI
    refine ⟨_, rfl, ?_⟩
    change O.wq ((_ : SF) [_, _, _, _, _, _, _, _, _, _, _, _, _, _, _, _, _, _, _]) _
    obtain ⟨t265, e266, h⟩ := M.inv h
    refine w_nx (sv_set (ev_call (pes1 (pe_v rfl) (pes1 (pe_v rfl) pes0)) (pgs1 (pg_v rfl) (pgs1 (pg_v rfl) pgs0)) (H.sim_law_box e266) rfl)) ?_
    change O.wq ((_ : SF) [_, _, _, _, _, _, _, _, _, _, _, _, _, _, _, _, _, _, _]) _
    obtain ⟨r267, e268, h⟩ := M.inv h
    obtain ⟨t269, e270, h⟩ := M.inv h
    refine w_setX (ex_op2 (pe_e (vx ev_c)) (pe_e (vx (ev_callIO rfl (pes1 (pe_e (vx ev_c)) pes0) (pgs1 pg_e pgs0) rfl rfl (H.sim_law_take e268) rfl))) pg_e pg_e e270) (fun fr271 => ?_)
    change O.wq ((_ : SF) [_, _, _, _, _, _, _, _, _, _, _, _, _, _, _, _, _, _, _]) _
    refine w_fzs ?_
    change O.wq ((_ : SF) [_, _, _, _, _, _, _, _, _, _, _, _, _, _, _, _, _, _, _]) _
    obtain ⟨l272, e273, h⟩ := M.inv h
    obtain ⟨u288, e289, h⟩ := M.inv h
    obtain ⟨l290, e291, h⟩ := M.inv h
    refine w_nx (sv_set (ev_mapIO 2 rfl (iv_rg (pes1 (pe_v rfl) pes0) (pgs1 (pg_v rfl) pgs0) e273) rfl rfl e289 e291 (fun b281 d274 r h => by obtain ⟨r282, e283, h⟩ := M.inv h; obtain ⟨t284, e285, h⟩ := M.inv h; obtain ⟨r286, e287, h⟩ := M.inv h; cases h; exact ⟨_, _, _, rfl, tv_all0, (vx (ev_callIO rfl (pes1 (pe_e (vx (ev_lst (ea1 (vx ev_c) (ea1 (ex_op2 (pe_e (vx ev_c)) (pe_e (vx (ev_callIO rfl (pes1 (pe_e (vx ev_c)) pes0) (pgs1 pg_e pgs0) rfl rfl (H.sim_law_take e283) rfl))) pg_e pg_e e285) (ea1 (vx ev_c) ea0))) rfl))) pes0) (pgs1 pg_e pgs0) rfl rfl (H.sim_law_pick e287) rfl)), rfl⟩))) ?_
    change O.wq ((_ : SF) [_, _, _, _, _, _, _, _, _, _, _, _, _, _, _, _, _, _, _]) _
    refine w_fzs ?_
    change O.wq ((_ : SF) [_, _, _, _, _, _, _, _, _, _, _, _, _, _, _, _, _, _, _]) _
    obtain ⟨l292, e293, h⟩ := M.inv h
    obtain ⟨u299, e300, h⟩ := M.inv h
    obtain ⟨l301, e302, h⟩ := M.inv h
    obtain ⟨t303, e304, h⟩ := M.inv h
    refine w_nx (sv_set (ev_opN (pes1 (pe_e (vx (ev_map (iv_it (vx (ev_varF rfl)) e293) rfl e300 e302 (fun d294 x h => by obtain ⟨t295, e296, h⟩ := M.inv h; obtain ⟨t297, e298, h⟩ := M.inv h; cases h; exact ⟨_, _, _, rfl, tv_all0, (vx (ev_call (pes1 (pe_v rfl) (pes1 (pe_e (vx (ev_opN (pes1 (pe_v rfl) pes0) (pgs1 (pg_v rfl) pgs0) e296))) pes0)) (pgs1 (pg_v rfl) (pgs1 pg_e pgs0)) (H.sim_law_part e298) rfl)), rfl⟩)))) pes0) (pgs1 pg_e pgs0) e304)) ?_
    change O.wq ((_ : SF) [_, _, _, _, _, _, _, _, _, _, _, _, _, _, _, _, _, _, _]) _
    obtain ⟨t305, e306, h⟩ := M.inv h
    obtain ⟨t307, e308, h⟩ := M.inv h
    refine w_par ?_
    refine w_par1 (ev_call (pes1 (pe_v rfl) pes0) (pgs1 (pg_v rfl) pgs0) (sim_mean_cost e306) rfl) ?_
    refine w_par1 (ev_call (pes1 (pe_v rfl) pes0) (pgs1 (pg_v rfl) pgs0) (sim_best_cost e308) rfl) ?_
    refine w_par0 ?_
    change O.wq ((_ : SF) [_, _, _, _, _, _, _, _, _, _, _, _, _, _, _, _, _, _, _]) _
    obtain ⟨t309, e310, h⟩ := M.inv h
    obtain ⟨t311, e312, h⟩ := M.inv h
    obtain ⟨t313, e314, h⟩ := M.inv h
    obtain ⟨t315, e316, h⟩ := M.inv h
    refine w_nx (sv_set (ev_call (pes1 (pe_v rfl) (pes1 (pe_e (vx (ev_call (pes1 (pe_e (vx (ev_tup (ea1 (vx ev_c) (ea1 (vx ev_c) ea0)) rfl))) (pes1 (pe_e (vx (ev_call (pes1 (pe_e (vx ev_c)) (pes1 (pe_e (ex_op2 (pe_v rfl) (pe_e (vx ev_c)) (pg_v rfl) pg_e e310)) pes0)) (pgs1 pg_e (pgs1 pg_e pgs0)) (H.sim_law_part e312) rfl))) pes0)) (pgs1 pg_e (pgs1 pg_e pgs0)) (H.sim_law_less e314) rfl))) pes0)) (pgs1 (pg_v rfl) (pgs1 pg_e pgs0)) (H.sim_law_times e316) rfl)) ?_
    change O.wq ((_ : SF) [_, _, _, _, _, _, _, _, _, _, _, _, _, _, _, _, _, _, _]) _
    obtain ⟨t317, e318, h⟩ := M.inv h
    obtain ⟨t319, e320, h⟩ := M.inv h
    obtain ⟨t321, e322, h⟩ := M.inv h
    obtain ⟨t323, e324, h⟩ := M.inv h
    obtain ⟨t325, e326, h⟩ := M.inv h
    obtain ⟨t327, e328, h⟩ := M.inv h
    obtain ⟨c329, e330, h⟩ := M.inv h
    obtain ⟨c345, e346, h⟩ := M.inv h
    refine w_ifD (tv_orN (tv_op2 (pe_e (ex_op2 (pe_e (vx (ev_op2 (pe_v rfl) (pe_e (vx ev_c)) (pg_v rfl) pg_e e318))) (pe_e (vx (ev_op2 (pe_v rfl) (pe_e (vx ev_c)) (pg_v rfl) pg_e e320))) pg_e pg_e e322)) (pe_e (ex_op2 (pe_e (vx (ev_op2 (pe_v rfl) (pe_e (vx ev_c)) (pg_v rfl) pg_e e324))) (pe_e (vx (ev_op2 (pe_v rfl) (pe_e (vx ev_c)) (pg_v rfl) pg_e e326))) pg_e pg_e e328)) pg_e pg_e e330) e346 (fun v h => by obtain ⟨t331, e332, h⟩ := M.inv h; obtain ⟨t333, e334, h⟩ := M.inv h; obtain ⟨t335, e336, h⟩ := M.inv h; obtain ⟨t337, e338, h⟩ := M.inv h; obtain ⟨t339, e340, h⟩ := M.inv h; obtain ⟨t341, e342, h⟩ := M.inv h; obtain ⟨c343, e344, h⟩ := M.inv h; cases h; exact (tv_op2 (pe_e (ex_op2 (pe_e (vx (ev_op2 (pe_v rfl) (pe_e (vx ev_c)) (pg_v rfl) pg_e e332))) (pe_e (vx (ev_op2 (pe_v rfl) (pe_e (vx ev_c)) (pg_v rfl) pg_e e334))) pg_e pg_e e336)) (pe_e (ex_op2 (pe_e (vx (ev_op2 (pe_v rfl) (pe_e (vx ev_c)) (pg_v rfl) pg_e e338))) (pe_e (vx (ev_op2 (pe_v rfl) (pe_e (vx ev_c)) (pg_v rfl) pg_e e340))) pg_e pg_e e342)) pg_e pg_e e344))) (fun hc => ?_) (fun hc => ?_)
    · subst hc
      replace h := cT h
      change O.wq ((_ : SF) [_, _, _, _, _, _, _, _, _, _, _, _, _, _, _, _, _, _, _]) _
      replace h := M.ok.inj h
      subst h
      exact w_ret ev_c rfl
    · subst hc
      replace h := cF h
      change O.wq ((_ : SF) [_, _, _, _, _, _, _, _, _, _, _, _, _, _, _, _, _, _, _]) _
      refine w_fin sv_nil ?_
      change O.wq ((_ : SF) [_, _, _, _, _, _, _, _, _, _, _, _, _, _, _, _, _, _, _]) _
      refine w_nx (sv_set (ev_tup (ea1 (vx ev_c) (ea1 (vx ev_c) ea0)) rfl)) ?_
      change O.wq ((_ : SF) [_, _, _, _, _, _, _, _, _, _, _, _, _, _, _, _, _, _, _]) _
      obtain ⟨l347, e348, h⟩ := M.inv h
      obtain ⟨s382, e383, h⟩ := M.inv h
      refine w_forS (fun (s349 : D) ρ => ∃ (o350 : Option D) (o351 : Option D) (o352 : Option D), ρ = [some (false, script1), some (false, d264), some (true, l290.2), some (false, t269), some (false, (D.lst l290.1)), some (false, t303), some (false, t315), some (false, s349), fo o350, fo o257, fo o258, fo o259, some (false, t305), some (false, t307), fo o351, none, fo o352, none, none]) (iv_rg (pes1 (pe_v rfl) pes0) (pgs1 (pg_v rfl) pgs0) e348) e383 ⟨o256, o262, o263, rfl⟩ ?_ ?_
      · intro s349 d353 ρ r hI h
        obtain ⟨o350, o351, o352, rfl⟩ := hI
        refine ⟨_, rfl, ?_⟩
        change O.wq ((_ : SF) [_, _, _, _, _, _, _, _, _, _, _, _, _, _, _, _, _, _, _]) _
        obtain ⟨l354, e355, h⟩ := M.inv h
        obtain ⟨s378, e379, h⟩ := M.inv h
        refine w_forSf (fun (s356 : D) ρ => ∃ (o357 : Option D) (o358 : Option D), ρ = [some (false, script1), some (false, d264), some (true, l290.2), some (false, t269), some (false, (D.lst l290.1)), some (false, t303), some (false, t315), some (false, s356), some (false, d353), fo o257, fo o258, fo o259, some (false, t305), some (false, t307), fo o357, none, fo o358, none, none]) (iv_rg (pes1 (pe_v rfl) pes0) (pgs1 (pg_v rfl) pgs0) e355) e379 ⟨o351, o352, rfl⟩ ?_ ?_
        · intro s356 d359 ρ r hI h
          obtain ⟨o357, o358, rfl⟩ := hI
          refine ⟨_, rfl, ?_⟩
          change O.wq ((_ : SF) [_, _, _, _, _, _, _, _, _, _, _, _, _, _, _, _, _, _, _]) _
          obtain ⟨t360, e361, h⟩ := M.inv h
          obtain ⟨t362, e363, h⟩ := M.inv h
          obtain ⟨t364, e365, h⟩ := M.inv h
          refine w_nx (sv_set (ev_call (pes1 (pe_e (vx (ev_op2 (pe_v rfl) (pe_v rfl) (pg_v rfl) (pg_v rfl) e361))) (pes1 (pe_e (vx (ev_op2 (pe_v rfl) (pe_v rfl) (pg_v rfl) (pg_v rfl) e363))) pes0)) (pgs1 pg_e (pgs1 pg_e pgs0)) (H.sim_law_times e365) rfl)) ?_
          change O.wq ((_ : SF) [_, _, _, _, _, _, _, _, _, _, _, _, _, _, _, _, _, _, _]) _
          obtain ⟨t366, e367, h⟩ := M.inv h
          obtain ⟨t368, e369, h⟩ := M.inv h
          obtain ⟨t370, e371, h⟩ := M.inv h
          obtain ⟨t372, e373, h⟩ := M.inv h
          obtain ⟨t374, e375, h⟩ := M.inv h
          obtain ⟨t376, e377, h⟩ := M.inv h
          refine w_fin (sv_set (ev_call (pes1 (pe_v rfl) (pes1 (pe_e (vx (ev_call (pes1 (pe_e (vx (ev_call (pes1 (pe_e (vx (ev_tup (ea1 (vx ev_c) (ea1 (vx ev_c) ea0)) rfl))) (pes1 (pe_v rfl) pes0)) (pgs1 pg_e (pgs1 (pg_v rfl) pgs0)) (H.sim_law_times e367) rfl))) (pes1 (pe_e (vx (ev_call (pes1 (pe_e (vx (ev_op2 (pe_v rfl) (pe_v rfl) (pg_v rfl) (pg_v rfl) e369))) (pes1 (pe_e (vx (ev_op2 (pe_v rfl) (pe_v rfl) (pg_v rfl) (pg_v rfl) e371))) pes0)) (pgs1 pg_e (pgs1 pg_e pgs0)) (H.sim_law_plus e373) rfl))) pes0)) (pgs1 pg_e (pgs1 pg_e pgs0)) (sim_law_over e375) rfl))) pes0)) (pgs1 (pg_v rfl) (pgs1 pg_e pgs0)) (H.sim_law_plus e377) rfl)) ?_
          replace h := M.ok.inj h
          subst h
          exact ⟨some d359, some t364, rfl⟩
        · intro ρ hI
          obtain ⟨o380, o381, rfl⟩ := hI
          replace h := M.ok.inj h
          subst h
          exact ⟨some d353, o380, o381, rfl⟩
      · intro ρ hI
        obtain ⟨o384, o385, o386, rfl⟩ := hI
        change O.wq ((_ : SF) [_, _, _, _, _, _, _, _, _, _, _, _, _, _, _, _, _, _, _]) _
        obtain ⟨t387, e388, h⟩ := M.inv h
        obtain ⟨c389, e390, h⟩ := M.inv h
        obtain ⟨c391, e392, h⟩ := M.inv h
        refine w_ifD (tv_noN (tv_of (pe_e (vx (ev_call (pes1 (pe_v rfl) (pes1 (pe_v rfl) pes0)) (pgs1 (pg_v rfl) (pgs1 (pg_v rfl) pgs0)) (H.sim_law_same 40 e388) rfl))) pg_e e390) e392) (fun hc => ?_) (fun hc => ?_)
        · subst hc
          replace h := cT h
          change O.wq ((_ : SF) [_, _, _, _, _, _, _, _, _, _, _, _, _, _, _, _, _, _, _]) _
          replace h := M.ok.inj h
          subst h
          exact w_ret ev_c rfl
        · subst hc
          replace h := cF h
          change O.wq ((_ : SF) [_, _, _, _, _, _, _, _, _, _, _, _, _, _, _, _, _, _, _]) _
          refine w_fin sv_nil ?_
          change O.wq ((_ : SF) [_, _, _, _, _, _, _, _, _, _, _, _, _, _, _, _, _, _, _]) _
          obtain ⟨t393, e394, h⟩ := M.inv h
          refine w_nx (sv_set (ev_opN (pes1 (pe_v rfl) pes0) (pgs1 (pg_v rfl) pgs0) e394)) ?_
          change O.wq ((_ : SF) [_, _, _, _, _, _, _, _, _, _, _, _, _, _, _, _, _, _, _]) _
          refine w_fzs ?_
          change O.wq ((_ : SF) [_, _, _, _, _, _, _, _, _, _, _, _, _, _, _, _, _, _, _]) _
          obtain ⟨l395, e396, h⟩ := M.inv h
          obtain ⟨u404, e405, h⟩ := M.inv h
          obtain ⟨l406, e407, h⟩ := M.inv h
          obtain ⟨t408, e409, h⟩ := M.inv h
          obtain ⟨t410, e411, h⟩ := M.inv h
          obtain ⟨t412, e413, h⟩ := M.inv h
          refine w_nx (sv_set (ev_call (pes1 (pe_e (vx (ev_opN (pes1 (pe_e (vx (ev_map (iv_enum (vx (ev_varF rfl)) e396) rfl e405 e407 (fun d397 x h => by replace h := M.inv h; obtain ⟨p399, e398, h⟩ := h; (have hz := h; obtain rfl := asT2_inv' e398; have h := hz; clear hz); obtain ⟨t400, e401, h⟩ := M.inv h; obtain ⟨t402, e403, h⟩ := M.inv h; cases h; exact ⟨_, _, _, rfl, tv_all0, (ex_op2 (pe_v rfl) (pe_e (ex_op2 (pe_v rfl) (pe_e (vx ev_c)) (pg_v rfl) pg_e e401)) (pg_v rfl) pg_e e403), rfl⟩)))) pes0) (pgs1 pg_e pgs0) e409))) (pes1 (pe_e (vx (ev_opN (pes1 (pe_v rfl) pes0) (pgs1 (pg_v rfl) pgs0) e411))) pes0)) (pgs1 pg_e (pgs1 pg_e pgs0)) (H.sim_law_part e413) rfl)) ?_
          change O.wq ((_ : SF) [_, _, _, _, _, _, _, _, _, _, _, _, _, _, _, _, _, _, _]) _
          obtain ⟨t414, e415, h⟩ := M.inv h
          obtain ⟨c416, e417, h⟩ := M.inv h
          obtain ⟨c418, e419, h⟩ := M.inv h
          refine w_ifD (tv_noN (tv_of (pe_e (vx (ev_call (pes1 (pe_v rfl) (pes1 (pe_v rfl) pes0)) (pgs1 (pg_v rfl) (pgs1 (pg_v rfl) pgs0)) (H.sim_law_same 40 e415) rfl))) pg_e e417) e419) (fun hc => ?_) (fun hc => ?_)
          · subst hc
            replace h := cT h
            change O.wq ((_ : SF) [_, _, _, _, _, _, _, _, _, _, _, _, _, _, _, _, _, _, _]) _
            replace h := M.ok.inj h
            subst h
            exact w_ret ev_c rfl
          · subst hc
            replace h := cF h
            change O.wq ((_ : SF) [_, _, _, _, _, _, _, _, _, _, _, _, _, _, _, _, _, _, _]) _
            refine w_fin sv_nil ?_
            change O.wq ((_ : SF) [_, _, _, _, _, _, _, _, _, _, _, _, _, _, _, _, _, _, _]) _
            obtain ⟨t420, e421, h⟩ := M.inv h
            obtain ⟨t422, e423, h⟩ := M.inv h
            refine w_setX (ex_op2 (pe_e (vx (ev_tup (ea1 (vx (ev_call (pes1 (pe_e (vx ev_c)) (pes1 (pe_v rfl) pes0)) (pgs1 pg_e (pgs1 (pg_v rfl) pgs0)) (H.sim_law_part e421) rfl)) ea0) rfl))) (pe_v rfl) pg_e (pg_v rfl) e423) (fun fr424 => ?_)
            change O.wq ((_ : SF) [_, _, _, _, _, _, _, _, _, _, _, _, _, _, _, _, _, _, _]) _
            refine w_fz ?_
            change O.wq ((_ : SF) [_, _, _, _, _, _, _, _, _, _, _, _, _, _, _, _, _, _, _]) _
            obtain ⟨t425, e426, h⟩ := M.inv h
            obtain ⟨t427, e428, h⟩ := M.inv h
            obtain ⟨t429, e430, h⟩ := M.inv h
            obtain ⟨t431, e432, h⟩ := M.inv h
            obtain ⟨c433, e434, h⟩ := M.inv h
            obtain ⟨c435, e436, h⟩ := M.inv h
            obtain ⟨c449, e450, h⟩ := M.inv h
            refine w_if (tv_orN (tv_noN (tv_of (pe_e (vx (ev_call (pes1 (pe_e (vx (ev_call (pes1 (pe_v rfl) pes0) (pgs1 (pg_v rfl) pgs0) (sim_mean_cost e426) rfl))) (pes1 (pe_e (vx (ev_call (pes1 (pe_e (ex_op2 (pe_v rfl) (pe_e (vx ev_c)) (pg_v rfl) pg_e e428)) (pes1 (pe_e (vx ev_c)) pes0)) (pgs1 pg_e (pgs1 pg_e pgs0)) (H.sim_law_part e430) rfl))) pes0)) (pgs1 pg_e (pgs1 pg_e pgs0)) (H.sim_law_same 40 e432) rfl))) pg_e e434) e436) e450 (fun v h => by obtain ⟨t437, e438, h⟩ := M.inv h; obtain ⟨t439, e440, h⟩ := M.inv h; obtain ⟨t441, e442, h⟩ := M.inv h; obtain ⟨t443, e444, h⟩ := M.inv h; obtain ⟨c445, e446, h⟩ := M.inv h; obtain ⟨c447, e448, h⟩ := M.inv h; cases h; exact (tv_noN (tv_of (pe_e (vx (ev_call (pes1 (pe_e (vx (ev_call (pes1 (pe_v rfl) pes0) (pgs1 (pg_v rfl) pgs0) (sim_best_cost e438) rfl))) (pes1 (pe_e (vx (ev_call (pes1 (pe_e (ex_op2 (pe_v rfl) (pe_e (vx ev_c)) (pg_v rfl) pg_e e440)) (pes1 (pe_e (vx ev_c)) pes0)) (pgs1 pg_e (pgs1 pg_e pgs0)) (H.sim_law_part e442) rfl))) pes0)) (pgs1 pg_e (pgs1 pg_e pgs0)) (H.sim_law_same 40 e444) rfl))) pg_e e446) e448))) (fun hc => ?_) (fun hc => ?_)
            · subst hc
              replace h := cT h
              change O.wq ((_ : SF) [_, _, _, _, _, _, _, _, _, _, _, _, _, _, _, _, _, _, _]) _
              replace h := M.ok.inj h
              subst h
              exact w_ret ev_c rfl
            · subst hc
              replace h := cF h
              change O.wq ((_ : SF) [_, _, _, _, _, _, _, _, _, _, _, _, _, _, _, _, _, _, _]) _
              refine w_fin sv_nil ?_
              replace h := M.ok.inj h
              subst h
              exact ⟨some d264, _, some t269, some ((D.lst l290.1)), some t303, some t315, some s382, o384, some t393, some t412, some t422, some t305, some t307, o385, o386, rfl⟩
  · intro w fr d ρ hz hq
    subst hz
    replace h := M.ok.inj h
    subst h
    exact hq
  · intro s451 ρ hz hI
    subst hz
    obtain ⟨o453, j454, o455, o456, o457, o458, o459, o460, o461, o462, o463, o464, o465, o466, o467, rfl⟩ := hI
    change O.wq ((_ : SF) [_, _, _, _, _, _, _, _, _, _, _, _, _, _, _, _, _, _, _]) _
    replace h := M.ok.inj h
    subst h
    exact w_ret ev_c rfl
section
variable {P : Program} {w : World} {K : PySem.W.Frag} {mg : Str → Option Value} {base : Heap} {c : Cc}
theorem sc_common_part : FnScope ["one", "two"] ["one", "two"] (defScope s_common_part) := ⟨rfl, rfl, rfl, by decide +kernel, rfl, by decide +kernel, by decide +kernel⟩
theorem bn_common_part : BindsP "common_part" s_common_part ["one", "two"] := fun _ _ _ _ _ _ us h => match us, h with | [_, _], _ => rfl
theorem ok_common_part (x : Fx K mg) (hC : K = c.K ∧ c.P = P ∧ c.w = w) : Okd P w K mg base CX0 c "common_part" s_common_part ["one", "two"] 1 false H.d_common_part := by
    have hK := hC.1
    have sc := sc_common_part
    exact okd_of (k := 0) x.n_common_part sc (by decide) bn_common_part fun f cdv A outer s Hh E hr => ((ds_seq (ds_par2 (i := 0) (j := 1) rfl sc.nd rfl rfl (by decide) rfl rfl (b_abs x.m_abs (dps_cons (dp_var 0 (pv 0)) dps_nil)) (b_abs x.m_abs (dps_cons (dp_var 1 (pv 1)) dps_nil)) (by decide) (by rfl))
    (ds_seq (ds_while 16777216 (passes_of rfl) (t_gt (dp_var 1 (pv 1)) (dp_val de_int))
    (ds_one (ds_par2 (i := 0) (j := 1) rfl sc.nd rfl rfl (by decide) rfl rfl (de_var 1 (pv 1)) (e_mod (dp_var 0 (pv 0)) (dp_var 1 (pv 1))) (by decide) (by rfl))))
    (ds_one (ds_ret (de_mv 0 (pv 0)))))) : DSs _ c false E _ H.b_common_part)
theorem sc_fraction_of : FnScope ["n", "d", "part"] ["n", "d"] (defScope s_fraction_of) := ⟨rfl, rfl, rfl, by decide +kernel, rfl, by decide +kernel, by decide +kernel⟩
theorem bn_fraction_of : BindsP "fraction_of" s_fraction_of ["n", "d"] := fun _ _ _ _ _ _ us h => match us, h with | [_, _], _ => rfl
theorem ok_fraction_of (x : Fx K mg) (hC : K = c.K ∧ c.P = P ∧ c.w = w) : Okd P w K mg base CX0 c "fraction_of" s_fraction_of ["n", "d"] 2 false H.d_fraction_of := by
    have hK := hC.1
    have sc := sc_fraction_of
    exact okd_of (k := 1) x.n_fraction_of sc (by decide) bn_fraction_of fun f cdv A outer s Hh E hr => ((ds_seq (ds_if (t_eq hr hK (dp_var 1 (pv 1)) (dp_val de_int))
    (ds_one ds_bad)
    ds_nil)
    (ds_seq (ds_set (i := 2) (e_call (ok_common_part x hC) hr (by omega) uPass (dps_cons (dp_var 0 (pv 0)) (dps_cons (dp_var 1 (pv 1)) dps_nil))) sc.nd rfl (by first | exact .inl rfl | exact .inr rfl) (by decide))
    (ds_seq (ds_if (t_lt (dp_var 1 (pv 1)) (dp_val de_int))
    (ds_one (ds_set (i := 2) (e_sub (dp_val de_int) (dp_var 2 (pv 2))) sc.nd rfl (by first | exact .inl rfl | exact .inr rfl) (by decide)))
    ds_nil)
    (ds_one (ds_ret (de_tup (da_cons (e_fdiv (dp_var 0 (pv 0)) (dp_var 2 (pv 2))) (da_cons (e_fdiv (dp_var 1 (pv 1)) (dp_var 2 (pv 2))) da_nil)))))))) : DSs _ c false E _ H.b_fraction_of)
theorem sc_plus : FnScope ["one", "two"] ["one", "two"] (defScope s_plus) := ⟨rfl, rfl, rfl, by decide +kernel, rfl, by decide +kernel, by decide +kernel⟩
theorem bn_plus : BindsP "plus" s_plus ["one", "two"] := fun _ _ _ _ _ _ us h => match us, h with | [_, _], _ => rfl
theorem ok_plus (x : Fx K mg) (hC : K = c.K ∧ c.P = P ∧ c.w = w) : Okd P w K mg base CX0 c "plus" s_plus ["one", "two"] 3 false H.d_plus := by
    have hK := hC.1
    have sc := sc_plus
    exact okd_of (k := 2) x.n_plus sc (by decide) bn_plus fun f cdv A outer s Hh E hr => ((ds_one (ds_ret (e_call (ok_fraction_of x hC) hr (by omega) uPass (dps_cons (dp_val (e_add hK (dp_val (e_mul hK (dp_val (e_ix hr hC (dp_var 0 (pv 0)) (dp_val de_int))) (dp_val (e_ix hr hC (dp_var 1 (pv 1)) (dp_val de_int))))) (dp_val (e_mul hK (dp_val (e_ix hr hC (dp_var 1 (pv 1)) (dp_val de_int))) (dp_val (e_ix hr hC (dp_var 0 (pv 0)) (dp_val de_int))))))) (dps_cons (dp_val (e_mul hK (dp_val (e_ix hr hC (dp_var 0 (pv 0)) (dp_val de_int))) (dp_val (e_ix hr hC (dp_var 1 (pv 1)) (dp_val de_int))))) dps_nil))))) : DSs _ c false E _ H.b_plus)
theorem sc_times : FnScope ["one", "two"] ["one", "two"] (defScope s_times) := ⟨rfl, rfl, rfl, by decide +kernel, rfl, by decide +kernel, by decide +kernel⟩
theorem bn_times : BindsP "times" s_times ["one", "two"] := fun _ _ _ _ _ _ us h => match us, h with | [_, _], _ => rfl
theorem ok_times (x : Fx K mg) (hC : K = c.K ∧ c.P = P ∧ c.w = w) : Okd P w K mg base CX0 c "times" s_times ["one", "two"] 3 false H.d_times := by
    have hK := hC.1
    have sc := sc_times
    exact okd_of (k := 2) x.n_times sc (by decide) bn_times fun f cdv A outer s Hh E hr => ((ds_one (ds_ret (e_call (ok_fraction_of x hC) hr (by omega) uPass (dps_cons (dp_val (e_mul hK (dp_val (e_ix hr hC (dp_var 0 (pv 0)) (dp_val de_int))) (dp_val (e_ix hr hC (dp_var 1 (pv 1)) (dp_val de_int))))) (dps_cons (dp_val (e_mul hK (dp_val (e_ix hr hC (dp_var 0 (pv 0)) (dp_val de_int))) (dp_val (e_ix hr hC (dp_var 1 (pv 1)) (dp_val de_int))))) dps_nil))))) : DSs _ c false E _ H.b_times)
theorem sc_over : FnScope ["one", "two"] ["one", "two"] (defScope s_over) := ⟨rfl, rfl, rfl, by decide +kernel, rfl, by decide +kernel, by decide +kernel⟩
theorem bn_over : BindsP "over" s_over ["one", "two"] := fun _ _ _ _ _ _ us h => match us, h with | [_, _], _ => rfl
theorem ok_over (x : Fx K mg) (hC : K = c.K ∧ c.P = P ∧ c.w = w) : Okd P w K mg base CX0 c "over" s_over ["one", "two"] 3 false H.d_over := by
    have hK := hC.1
    have sc := sc_over
    exact okd_of (k := 2) x.n_over sc (by decide) bn_over fun f cdv A outer s Hh E hr => ((ds_one (ds_ret (e_call (ok_fraction_of x hC) hr (by omega) uPass (dps_cons (dp_val (e_mul hK (dp_val (e_ix hr hC (dp_var 0 (pv 0)) (dp_val de_int))) (dp_val (e_ix hr hC (dp_var 1 (pv 1)) (dp_val de_int))))) (dps_cons (dp_val (e_mul hK (dp_val (e_ix hr hC (dp_var 0 (pv 0)) (dp_val de_int))) (dp_val (e_ix hr hC (dp_var 1 (pv 1)) (dp_val de_int))))) dps_nil))))) : DSs _ c false E _ H.b_over)
theorem sc_pair_ahead : FnScope ["weights", "one", "two"] ["weights", "one", "two"] (defScope s_pair_ahead) := ⟨rfl, rfl, rfl, by decide +kernel, rfl, by decide +kernel, by decide +kernel⟩
theorem bn_pair_ahead : BindsP "pair_ahead" s_pair_ahead ["weights", "one", "two"] := fun _ _ _ _ _ _ us h => match us, h with | [_, _, _], _ => rfl
theorem ok_pair_ahead (x : Fx K mg) (hC : K = c.K ∧ c.P = P ∧ c.w = w) : Okd P w K mg base CX0 c "pair_ahead" s_pair_ahead ["weights", "one", "two"] 4 false d_pair_ahead := by
    have hK := hC.1
    have sc := sc_pair_ahead
    exact okd_of (k := 3) x.n_pair_ahead sc (by decide) bn_pair_ahead fun f cdv A outer s Hh E hr => ((ds_one (ds_ret (e_call (ok_over x hC) hr (by omega) uPass (dps_cons (dp_val (e_ix hr hC (dp_var 0 (pv 0)) (dp_var 1 (pv 1)))) (dps_cons (dp_val (e_call (ok_plus x hC) hr (by omega) uPass (dps_cons (dp_val (e_ix hr hC (dp_var 0 (pv 0)) (dp_var 1 (pv 1)))) (dps_cons (dp_val (e_ix hr hC (dp_var 0 (pv 0)) (dp_var 2 (pv 2)))) dps_nil)))) dps_nil))))) : DSs _ c false E _ b_pair_ahead)
theorem sc_mean_cost : FnScope ["weights", "told", "two", "one"] ["weights"] (defScope s_mean_cost) := ⟨rfl, rfl, rfl, by decide +kernel, rfl, by decide +kernel, by decide +kernel⟩
theorem bn_mean_cost : BindsP "mean_cost" s_mean_cost ["weights"] := fun _ _ _ _ _ _ us h => match us, h with | [_], _ => rfl
theorem ok_mean_cost (x : Fx K mg) (hC : K = c.K ∧ c.P = P ∧ c.w = w) : Okd P w K mg base CX0 c "mean_cost" s_mean_cost ["weights"] 5 false d_mean_cost := by
    have hK := hC.1
    have sc := sc_mean_cost
    exact okd_of (k := 4) x.n_mean_cost sc (by decide) bn_mean_cost fun f cdv A outer s Hh E hr => ((ds_seq (ds_set (i := 1) (de_conT (ns := [1, 1]) hK x.k_ONE) sc.nd rfl (by first | exact .inl rfl | exact .inr rfl) (by decide))
    (ds_seq (ds_for (passes_of rfl) rfl (di_rg1 (dps_cons (dp_val (b_len hC x.m_len (dps_cons (dp_var 0 (pv 0)) dps_nil))) dps_nil) (by rfl) x.m_range) (dg_name (i := 2) sc.nd rfl (by first | exact .inl rfl | exact .inr rfl)) (by decide)
    (ds_one (ds_for (passes_of rfl) rfl (di_rg1 (dps_cons (dp_var 2 (pv 2)) dps_nil) (by rfl) x.m_range) (dg_name (i := 3) sc.nd rfl (by first | exact .inl rfl | exact .inr rfl)) (by decide)
    (ds_one (ds_set (i := 1) (e_call (ok_plus x hC) hr (by omega) uPass (dps_cons (dp_var 1 (pv 1)) (dps_cons (dp_val (e_call (ok_times x hC) hr (by omega) uPass (dps_cons (dp_val (de_tup (da_cons de_int (da_cons de_int da_nil)))) (dps_cons (dp_val (e_call (ok_times x hC) hr (by omega) uPass (dps_cons (dp_val (e_ix hr hC (dp_var 0 (pv 0)) (dp_var 2 (pv 2)))) (dps_cons (dp_val (e_call (ok_pair_ahead x hC) hr (by omega) uPass (dps_cons (dp_var 0 (pv 0)) (dps_cons (dp_var 3 (pv 3)) (dps_cons (dp_var 2 (pv 2)) dps_nil))))) dps_nil)))) dps_nil)))) dps_nil))) sc.nd rfl (by first | exact .inl rfl | exact .inr rfl) (by decide))))))
    (ds_one (ds_ret (de_mv 1 (pv 1)))))) : DSs _ c false E _ b_mean_cost)
theorem sc_in_order_all : FnScope ["rows", "told", "row", "many", "other"] ["rows"] (defScope s_in_order_all) := ⟨rfl, rfl, rfl, by decide +kernel, rfl, by decide +kernel, by decide +kernel⟩
theorem bn_in_order_all : BindsP "in_order_all" s_in_order_all ["rows"] := fun _ _ _ _ _ _ us h => match us, h with | [_], _ => rfl
theorem ok_in_order_all (x : Fx K mg) (hC : K = c.K ∧ c.P = P ∧ c.w = w) : Okd P w K mg base CX0 c "in_order_all" s_in_order_all ["rows"] 1 false d_in_order_all := by
    have hK := hC.1
    have sc := sc_in_order_all
    exact okd_of (k := 0) x.n_in_order_all sc (by decide) bn_in_order_all fun f cdv A outer s Hh E hr => ((ds_seq (ds_set (i := 1) (de_lst da_nil) sc.nd rfl (by first | exact .inl rfl | exact .inr rfl) (by decide))
    (ds_seq (ds_fz [.var 1] (ds_for (passes_of rfl) rfl (di_val hC (de_var 0 (pv 0))) (dg_name (i := 2) sc.nd rfl (by first | exact .inl rfl | exact .inr rfl)) (by decide)
    (ds_seq (ds_fz [.var 1] (ds_set (i := 3) (b_len hC x.m_len (dps_cons (dp_val (de_lc (own := [("other", 4)]) rfl sc.nd (di_val hC (de_var 1 (pv 1))) (blkOk_by (N := ["rows", "told", "row", "many", "other"]) (sc := defScope s_in_order_all) (by decide +kernel)) rfl (by decide) (fun _ _ _ _ _ => (dg_name (i := 4) sc.nd rfl (by first | exact .inl rfl | exact .inr rfl))) (fun _ _ _ _ _ => (dts_one (t_le (dp_val (e_mul hK (dp_val (e_ix hr hC (dp_val (e_ix hr hC (dp_var 4 (pv 4)) (dp_val de_int))) (dp_val de_int))) (dp_val (e_ix hr hC (dp_val (e_ix hr hC (dp_var 2 (pv 2)) (dp_val de_int))) (dp_val de_int))))) (dp_val (e_mul hK (dp_val (e_ix hr hC (dp_val (e_ix hr hC (dp_var 2 (pv 2)) (dp_val de_int))) (dp_val de_int))) (dp_val (e_ix hr hC (dp_val (e_ix hr hC (dp_var 4 (pv 4)) (dp_val de_int))) (dp_val de_int)))))))) (fun _ _ _ _ _ => de_int))) dps_nil)) sc.nd rfl (by first | exact .inl rfl | exact .inr rfl) (by decide)))
    (ds_one (ds_set (i := 1) (e_add hK (dp_val (e_add hK (dp_val (de_slice hK (dp_var 1 (pv 1)) do_none (do_some (de_var 3 (pv 3))))) (dp_val (de_lst (da_cons (de_var 2 (pv 2)) da_nil))))) (dp_val (de_slice hK (dp_var 1 (pv 1)) (do_some (de_var 3 (pv 3))) do_none))) sc.nd rfl (by first | exact .inl rfl | exact .inr rfl) (by decide))))))
    (ds_one (ds_fz [.var 1] (ds_ret (de_mv 1 (pv 1))))))) : DSs _ c false E _ b_in_order_all)
theorem sc_best_cost : FnScope ["weights", "weight", "told", "falling", "place", "name"] ["weights"] (defScope s_best_cost) := ⟨rfl, rfl, rfl, by decide +kernel, rfl, by decide +kernel, by decide +kernel⟩
theorem bn_best_cost : BindsP "best_cost" s_best_cost ["weights"] := fun _ _ _ _ _ _ us h => match us, h with | [_], _ => rfl
theorem ok_best_cost (x : Fx K mg) (hC : K = c.K ∧ c.P = P ∧ c.w = w) : Okd P w K mg base CX0 c "best_cost" s_best_cost ["weights"] 4 false d_best_cost := by
    have hK := hC.1
    have sc := sc_best_cost
    exact okd_of (k := 3) x.n_best_cost sc (by decide) bn_best_cost fun f cdv A outer s Hh E hr => ((ds_seq (ds_par2 (i := 2) (j := 3) rfl sc.nd rfl rfl (by decide) rfl rfl (de_conT (ns := [0, 1]) hK x.k_NOUGHT) (de_lst da_nil) (by decide) (by rfl))
    (ds_seq (ds_for (passes_of rfl) rfl (di_val hC (de_var 0 (pv 0))) (dg_name (i := 1) sc.nd rfl (by first | exact .inl rfl | exact .inr rfl)) (by decide)
    (ds_one (ds_expr (de_mut gs_app mt_append PySem.F.slot_list_append PySem.F.type_list_append (pv 3) (da_cons (de_tup (da_cons (de_var 1 (pv 1)) (da_cons (b_len hC x.m_len (dps_cons (dp_var 3 (pv 3)) dps_nil)) da_nil))) da_nil)))))
    (ds_seq (ds_fz [.var 3] (ds_for (passes_of rfl) rfl (di_enum hK (da_cons (e_call (ok_in_order_all x hC) hr (by omega) uPass (dps_cons (dp_var 3 (pv 3)) dps_nil)) da_nil) (by rfl) x.m_enumerate) (dg_tup hK rfl (.cons (dg_name (i := 4) sc.nd rfl (by first | exact .inl rfl | exact .inr rfl)) (by rfl) (.cons (dg_tup hK rfl (.cons (dg_name (i := 1) sc.nd rfl (by first | exact .inl rfl | exact .inr rfl)) (by rfl) (.cons (dg_name (i := 5) sc.nd rfl (by first | exact .inl rfl | exact .inr rfl)) (by rfl) .nil))) (by rfl) .nil))) (by decide)
    (ds_one (ds_set (i := 2) (e_call (ok_plus x hC) hr (by omega) uPass (dps_cons (dp_var 2 (pv 2)) (dps_cons (dp_val (e_call (ok_times x hC) hr (by omega) uPass (dps_cons (dp_var 1 (pv 1)) (dps_cons (dp_val (de_tup (da_cons (e_sub (dp_val (b_len hC x.m_len (dps_cons (dp_var 0 (pv 0)) dps_nil))) (dp_var 4 (pv 4))) (da_cons de_int da_nil)))) dps_nil)))) dps_nil))) sc.nd rfl (by first | exact .inl rfl | exact .inr rfl) (by decide)))))
    (ds_one (ds_ret (de_mv 2 (pv 2))))))) : DSs _ c false E _ b_best_cost)
theorem sc_law_box : FnScope ["script", "k", "cell", "great"] ["script", "k"] (defScope s_law_box) := ⟨rfl, rfl, rfl, by decide +kernel, rfl, by decide +kernel, by decide +kernel⟩
theorem bn_law_box : BindsP "_law_box" s_law_box ["script", "k"] := fun _ _ _ _ _ _ us h => match us, h with | [_, _], _ => rfl
theorem ok_law_box (x : Fx K mg) (hC : K = c.K ∧ c.P = P ∧ c.w = w) : Okd P w K mg base CX0 c "_law_box" s_law_box ["script", "k"] 1 false H.d_law_box := by
    have hK := hC.1
    have sc := sc_law_box
    exact okd_of (k := 0) x.n_law_box sc (by decide) bn_law_box fun f cdv A outer s Hh E hr => ((ds_seq (ds_set (i := 2) (e_add hK (dp_val (e_mul hK (dp_val de_int) (dp_var 1 (pv 1)))) (dp_val de_int)) sc.nd rfl (by first | exact .inl rfl | exact .inr rfl) (by decide))
    (ds_seq (ds_if (t_lt (dp_var 1 (pv 1)) (dp_val (b_len hC x.m_len (dps_cons (dp_var 0 (pv 0)) dps_nil))))
    (ds_one (ds_set (i := 2) (b_abs x.m_abs (dps_cons (dp_val (b_int x.m_int (dps_cons (dp_val (e_ix hr hC (dp_var 0 (pv 0)) (dp_var 1 (pv 1)))) dps_nil))) dps_nil)) sc.nd rfl (by first | exact .inl rfl | exact .inr rfl) (by decide)))
    (ds_one (ds_if (t_gt (dp_val (b_len hC x.m_len (dps_cons (dp_var 0 (pv 0)) dps_nil))) (dp_val de_int))
    (ds_one (ds_set (i := 2) (e_add hK (dp_var 2 (pv 2)) (dp_val (e_mul hK (dp_val (e_mod (dp_val (b_int x.m_int (dps_cons (dp_val (b_abs x.m_abs (dps_cons (dp_val (b_int x.m_int (dps_cons (dp_val (e_ix hr hC (dp_var 0 (pv 0)) (dp_val (e_mod (dp_val (b_int x.m_int (dps_cons (dp_var 1 (pv 1)) dps_nil))) (dp_val (b_len hC x.m_len (dps_cons (dp_var 0 (pv 0)) dps_nil))))))) dps_nil))) dps_nil))) dps_nil))) (dp_val de_int))) (dp_val de_int)))) sc.nd rfl (by first | exact .inl rfl | exact .inr rfl) (by decide)))
    ds_nil)))
    (ds_seq (ds_set (i := 3) (de_if (t_ge (dp_var 2 (pv 2)) (dp_val (e_pow (dp_val de_int) (dp_val de_int)))) (de_var 2 (pv 2)) de_int) sc.nd rfl (by first | exact .inl rfl | exact .inr rfl) (by decide))
    (ds_one (ds_ret (de_lst (da_cons (de_var 3 (pv 3)) (da_cons (e_add hK (dp_val (e_mod (dp_val (b_int x.m_int (dps_cons (dp_val (e_add hK (dp_val (e_mul hK (dp_val (e_mod (dp_val (b_int x.m_int (dps_cons (dp_var 2 (pv 2)) dps_nil))) (dp_val de_int))) (dp_val de_int))) (dp_val (e_mul hK (dp_val de_int) (dp_var 1 (pv 1)))))) dps_nil))) (dp_val de_int))) (dp_val de_int)) da_nil)))))))) : DSs _ c false E _ H.b_law_box)
theorem sc_law_take : FnScope ["box", "many", "raw", "digit"] ["box", "many"] (defScope s_law_take) := ⟨rfl, rfl, rfl, by decide +kernel, rfl, by decide +kernel, by decide +kernel⟩
theorem bn_law_take : BindsP "_law_take" s_law_take ["box", "many"] := fun _ _ _ _ _ _ us h => match us, h with | [_, _], _ => rfl
theorem ok_law_take (x : Fx K mg) (hC : K = c.K ∧ c.P = P ∧ c.w = w) : Okd P w K mg base CX0 c "_law_take" s_law_take ["box", "many"] 1 true H.d_law_take := by
    have hK := hC.1
    have sc := sc_law_take
    exact okd_of (k := 0) x.n_law_take sc (by decide) bn_law_take fun f cdv A outer s Hh E hr => ((ds_seq (ds_if (t_gt (dp_val (e_ix hr hC (dp_var 0 (pv 0)) (dp_val de_int))) (dp_val de_int))
    (ds_seq (ds_set (i := 3) (e_mod (dp_val (b_int x.m_int (dps_cons (dp_val (e_ix hr hC (dp_var 0 (pv 0)) (dp_val de_int))) dps_nil))) (dp_var 1 (pv 1))) sc.nd rfl (by first | exact .inl rfl | exact .inr rfl) (by decide))
    (ds_seq (ds_ix (e_fdiv (dp_val (e_ix hr hC (dp_var 0 (pv 0)) (dp_val de_int))) (dp_var 1 (pv 1))) (pv 0) de_int)
    (ds_one (ds_ret (de_mv 3 (pv 3))))))
    ds_nil)
    (ds_seq (ds_set (i := 2) (e_mod (dp_val (b_int x.m_int (dps_cons (dp_val (e_add hK (dp_val (e_mul hK (dp_val (e_ix hr hC (dp_var 0 (pv 0)) (dp_val de_int))) (dp_val de_int))) (dp_val de_int))) dps_nil))) (dp_val de_int)) sc.nd rfl (by first | exact .inl rfl | exact .inr rfl) (by decide))
    (ds_seq (ds_ix (e_add hK (dp_val (e_mod (dp_val (b_int x.m_int (dps_cons (dp_val (e_add hK (dp_val (e_mul hK (dp_var 2 (pv 2)) (dp_val de_int))) (dp_val de_int))) dps_nil))) (dp_val de_int))) (dp_val de_int)) (pv 0) de_int)
    (ds_one (ds_ret (e_mod (dp_val (b_int x.m_int (dps_cons (dp_val (e_fdiv (dp_val (e_add hK (dp_val (e_mul hK (dp_var 2 (pv 2)) (dp_val de_int))) (dp_val (e_ix hr hC (dp_var 0 (pv 0)) (dp_val de_int))))) (dp_val de_int))) dps_nil))) (dp_var 1 (pv 1)))))))) : DSs _ c true E _ H.b_law_take)
theorem sc_law_pick : FnScope ["box", "some"] ["box", "some"] (defScope s_law_pick) := ⟨rfl, rfl, rfl, by decide +kernel, rfl, by decide +kernel, by decide +kernel⟩
theorem bn_law_pick : BindsP "_law_pick" s_law_pick ["box", "some"] := fun _ _ _ _ _ _ us h => match us, h with | [_, _], _ => rfl
theorem ok_law_pick (x : Fx K mg) (hC : K = c.K ∧ c.P = P ∧ c.w = w) : Okd P w K mg base CX0 c "_law_pick" s_law_pick ["box", "some"] 2 true H.d_law_pick := by
    have hK := hC.1
    have sc := sc_law_pick
    exact okd_of (k := 1) x.n_law_pick sc (by decide) bn_law_pick fun f cdv A outer s Hh E hr => ((ds_one (ds_ret (e_ix hr hC (dp_var 1 (pv 1)) (dp_val (e_callIO (ok_law_take x hC) hr (by omega) uPass (pv 0) (dps_cons (dp_val (b_len hC x.m_len (dps_cons (dp_var 1 (pv 1)) dps_nil))) dps_nil)))))) : DSs _ c true E _ H.b_law_pick)
theorem sc_law_same : FnScope ["told", "due", "one", "other"] ["told", "due"] (defScope s_law_same) := ⟨rfl, rfl, rfl, by decide +kernel, rfl, by decide +kernel, by decide +kernel⟩
theorem bn_law_same : BindsP "_law_same" s_law_same ["told", "due"] := fun _ _ _ _ _ _ us h => match us, h with | [_, _], _ => rfl
theorem ok_law_same (x : Fx K mg) (hC : K = c.K ∧ c.P = P ∧ c.w = w) : ∀ n, Okd P w K mg base CX0 c "_law_same" s_law_same ["told", "due"] (1 + n) false (H.d_law_same n)
  | 0 => okd_bad x.n_law_same sc_law_same bn_law_same
  | n + 1 => by
    have ih := ok_law_same x hC n
    have hK := hC.1
    have sc := sc_law_same
    exact okd_of x.n_law_same sc (by decide) bn_law_same fun f cdv A outer s Hh E hr => ((ds_seq (ds_if (dt_of (dp_val (de_isi (dp_var 1 (pv 1)) hK (by rfl) x.m_isinstance (by rfl) x.m_tuple (by rfl) (by decide) (by decide +kernel) (by decide))))
    (ds_seq (ds_if (dt_bool (dw_or (dt_not (dt_of (dp_val (de_isi (dp_var 0 (pv 0)) hK (by rfl) x.m_isinstance (by rfl) x.m_tuple (by rfl) (by decide) (by decide +kernel) (by decide))))) (dw_or1 (t_ne hr hK (dp_val (b_len hC x.m_len (dps_cons (dp_var 0 (pv 0)) dps_nil))) (dp_val (b_len hC x.m_len (dps_cons (dp_var 1 (pv 1)) dps_nil)))))))
    (ds_one (ds_ret de_bl))
    ds_nil)
    (ds_seq (ds_for (passes_of rfl) rfl (di_zip hK (da_cons (de_var 0 (pv 0)) (da_cons (de_var 1 (pv 1)) da_nil)) (by rfl) x.m_zip) (dg_tup hK rfl (.cons (dg_name (i := 2) sc.nd rfl (by first | exact .inl rfl | exact .inr rfl)) (by rfl) (.cons (dg_name (i := 3) sc.nd rfl (by first | exact .inl rfl | exact .inr rfl)) (by rfl) .nil))) (by decide)
    (ds_one (ds_if (dt_not (dt_of (dp_val (e_call ih hr (Nat.le_refl _) uPass (dps_cons (dp_var 2 (pv 2)) (dps_cons (dp_var 3 (pv 3)) dps_nil))))))
    (ds_one (ds_ret de_bl))
    ds_nil)))
    (ds_one (ds_ret de_bl))))
    ds_nil)
    (ds_seq (ds_if (t_isN (dp_var 1 (pv 1)) (dp_val de_non))
    (ds_one (ds_ret (c_isN (dp_var 0 (pv 0)) (dp_val de_non))))
    ds_nil)
    (ds_seq (ds_if (dt_bool (dw_or (t_isB (dp_var 1 (pv 1)) (dp_val de_bl)) (dw_or1 (t_isB (dp_var 1 (pv 1)) (dp_val de_bl)))))
    (ds_one (ds_ret (de_and (dp_val (de_isi (dp_var 0 (pv 0)) hK (by rfl) x.m_isinstance (by rfl) x.m_bool (by rfl) (by decide) (by decide +kernel) (by decide))) (de_one (c_eq hr hK (dp_var 0 (pv 0)) (dp_var 1 (pv 1)))))))
    ds_nil)
    (ds_seq (ds_if (dt_of (dp_val (de_isi (dp_var 1 (pv 1)) hK (by rfl) x.m_isinstance (by rfl) x.m_int (by rfl) (by decide) (by decide +kernel) (by decide))))
    (ds_one (ds_ret (de_and (dp_val (de_isi (dp_var 0 (pv 0)) hK (by rfl) x.m_isinstance (by rfl) x.m_int (by rfl) (by decide) (by decide +kernel) (by decide))) (de_and (dp_val (de_not (dp_val (de_isi (dp_var 0 (pv 0)) hK (by rfl) x.m_isinstance (by rfl) x.m_bool (by rfl) (by decide) (by decide +kernel) (by decide))))) (de_one (c_eq hr hK (dp_var 0 (pv 0)) (dp_var 1 (pv 1))))))))
    ds_nil)
    (ds_one (ds_ret (de_and (dp_val (de_isi (dp_var 0 (pv 0)) hK (by rfl) x.m_isinstance (by rfl) x.m_str (by rfl) (by decide) (by decide +kernel) (by decide))) (de_and (dp_val (de_isi (dp_var 1 (pv 1)) hK (by rfl) x.m_isinstance (by rfl) x.m_str (by rfl) (by decide) (by decide +kernel) (by decide))) (de_one (c_eq hr hK (dp_var 0 (pv 0)) (dp_var 1 (pv 1)))))))))))) : DSs _ c false E _ (H.b_law_same (H.d_law_same n)))
theorem sc_law_gcd : FnScope ["one", "two"] ["one", "two"] (defScope s_law_gcd) := ⟨rfl, rfl, rfl, by decide +kernel, rfl, by decide +kernel, by decide +kernel⟩
theorem bn_law_gcd : BindsP "_law_gcd" s_law_gcd ["one", "two"] := fun _ _ _ _ _ _ us h => match us, h with | [_, _], _ => rfl
theorem ok_law_gcd (x : Fx K mg) (hC : K = c.K ∧ c.P = P ∧ c.w = w) : Okd P w K mg base CX0 c "_law_gcd" s_law_gcd ["one", "two"] 1 false H.d_law_gcd := by
    have hK := hC.1
    have sc := sc_law_gcd
    exact okd_of (k := 0) x.n_law_gcd sc (by decide) bn_law_gcd fun f cdv A outer s Hh E hr => ((ds_seq (ds_par2 (i := 0) (j := 1) rfl sc.nd rfl rfl (by decide) rfl rfl (b_abs x.m_abs (dps_cons (dp_var 0 (pv 0)) dps_nil)) (b_abs x.m_abs (dps_cons (dp_var 1 (pv 1)) dps_nil)) (by decide) (by rfl))
    (ds_seq (ds_while 16777216 (passes_of rfl) (t_gt (dp_var 1 (pv 1)) (dp_val de_int))
    (ds_one (ds_par2 (i := 0) (j := 1) rfl sc.nd rfl rfl (by decide) rfl rfl (de_var 1 (pv 1)) (e_mod (dp_val (b_int x.m_int (dps_cons (dp_var 0 (pv 0)) dps_nil))) (dp_var 1 (pv 1))) (by decide) (by rfl))))
    (ds_one (ds_ret (de_mv 0 (pv 0)))))) : DSs _ c false E _ H.b_law_gcd)
theorem sc_law_part : FnScope ["n", "d", "many"] ["n", "d"] (defScope s_law_part) := ⟨rfl, rfl, rfl, by decide +kernel, rfl, by decide +kernel, by decide +kernel⟩
theorem bn_law_part : BindsP "_law_part" s_law_part ["n", "d"] := fun _ _ _ _ _ _ us h => match us, h with | [_, _], _ => rfl
theorem ok_law_part (x : Fx K mg) (hC : K = c.K ∧ c.P = P ∧ c.w = w) : Okd P w K mg base CX0 c "_law_part" s_law_part ["n", "d"] 2 false H.d_law_part := by
    have hK := hC.1
    have sc := sc_law_part
    exact okd_of (k := 1) x.n_law_part sc (by decide) bn_law_part fun f cdv A outer s Hh E hr => ((ds_seq (ds_set (i := 2) (e_call (ok_law_gcd x hC) hr (by omega) uPass (dps_cons (dp_var 0 (pv 0)) (dps_cons (dp_var 1 (pv 1)) dps_nil))) sc.nd rfl (by first | exact .inl rfl | exact .inr rfl) (by decide))
    (ds_seq (ds_set (i := 2) (de_if (t_gt (dp_var 1 (pv 1)) (dp_val de_int)) (de_var 2 (pv 2)) (e_sub (dp_val de_int) (dp_var 2 (pv 2)))) sc.nd rfl (by first | exact .inl rfl | exact .inr rfl) (by decide))
    (ds_one (ds_ret (de_tup (da_cons (e_fdiv (dp_var 0 (pv 0)) (dp_var 2 (pv 2))) (da_cons (e_fdiv (dp_var 1 (pv 1)) (dp_var 2 (pv 2))) da_nil))))))) : DSs _ c false E _ H.b_law_part)
theorem sc_law_plus : FnScope ["one", "two"] ["one", "two"] (defScope s_law_plus) := ⟨rfl, rfl, rfl, by decide +kernel, rfl, by decide +kernel, by decide +kernel⟩
theorem bn_law_plus : BindsP "_law_plus" s_law_plus ["one", "two"] := fun _ _ _ _ _ _ us h => match us, h with | [_, _], _ => rfl
theorem ok_law_plus (x : Fx K mg) (hC : K = c.K ∧ c.P = P ∧ c.w = w) : Okd P w K mg base CX0 c "_law_plus" s_law_plus ["one", "two"] 3 false H.d_law_plus := by
    have hK := hC.1
    have sc := sc_law_plus
    exact okd_of (k := 2) x.n_law_plus sc (by decide) bn_law_plus fun f cdv A outer s Hh E hr => ((ds_one (ds_ret (e_call (ok_law_part x hC) hr (by omega) uPass (dps_cons (dp_val (e_add hK (dp_val (e_mul hK (dp_val (e_ix hr hC (dp_var 0 (pv 0)) (dp_val de_int))) (dp_val (e_ix hr hC (dp_var 1 (pv 1)) (dp_val de_int))))) (dp_val (e_mul hK (dp_val (e_ix hr hC (dp_var 1 (pv 1)) (dp_val de_int))) (dp_val (e_ix hr hC (dp_var 0 (pv 0)) (dp_val de_int))))))) (dps_cons (dp_val (e_mul hK (dp_val (e_ix hr hC (dp_var 0 (pv 0)) (dp_val de_int))) (dp_val (e_ix hr hC (dp_var 1 (pv 1)) (dp_val de_int))))) dps_nil))))) : DSs _ c false E _ H.b_law_plus)
theorem sc_law_times : FnScope ["one", "two"] ["one", "two"] (defScope s_law_times) := ⟨rfl, rfl, rfl, by decide +kernel, rfl, by decide +kernel, by decide +kernel⟩
theorem bn_law_times : BindsP "_law_times" s_law_times ["one", "two"] := fun _ _ _ _ _ _ us h => match us, h with | [_, _], _ => rfl
theorem ok_law_times (x : Fx K mg) (hC : K = c.K ∧ c.P = P ∧ c.w = w) : Okd P w K mg base CX0 c "_law_times" s_law_times ["one", "two"] 3 false H.d_law_times := by
    have hK := hC.1
    have sc := sc_law_times
    exact okd_of (k := 2) x.n_law_times sc (by decide) bn_law_times fun f cdv A outer s Hh E hr => ((ds_one (ds_ret (e_call (ok_law_part x hC) hr (by omega) uPass (dps_cons (dp_val (e_mul hK (dp_val (e_ix hr hC (dp_var 0 (pv 0)) (dp_val de_int))) (dp_val (e_ix hr hC (dp_var 1 (pv 1)) (dp_val de_int))))) (dps_cons (dp_val (e_mul hK (dp_val (e_ix hr hC (dp_var 0 (pv 0)) (dp_val de_int))) (dp_val (e_ix hr hC (dp_var 1 (pv 1)) (dp_val de_int))))) dps_nil))))) : DSs _ c false E _ H.b_law_times)
theorem sc_law_less : FnScope ["one", "two"] ["one", "two"] (defScope s_law_less) := ⟨rfl, rfl, rfl, by decide +kernel, rfl, by decide +kernel, by decide +kernel⟩
theorem bn_law_less : BindsP "_law_less" s_law_less ["one", "two"] := fun _ _ _ _ _ _ us h => match us, h with | [_, _], _ => rfl
theorem ok_law_less (x : Fx K mg) (hC : K = c.K ∧ c.P = P ∧ c.w = w) : Okd P w K mg base CX0 c "_law_less" s_law_less ["one", "two"] 3 false H.d_law_less := by
    have hK := hC.1
    have sc := sc_law_less
    exact okd_of (k := 2) x.n_law_less sc (by decide) bn_law_less fun f cdv A outer s Hh E hr => ((ds_one (ds_ret (e_call (ok_law_part x hC) hr (by omega) uPass (dps_cons (dp_val (e_sub (dp_val (e_mul hK (dp_val (e_ix hr hC (dp_var 0 (pv 0)) (dp_val de_int))) (dp_val (e_ix hr hC (dp_var 1 (pv 1)) (dp_val de_int))))) (dp_val (e_mul hK (dp_val (e_ix hr hC (dp_var 1 (pv 1)) (dp_val de_int))) (dp_val (e_ix hr hC (dp_var 0 (pv 0)) (dp_val de_int))))))) (dps_cons (dp_val (e_mul hK (dp_val (e_ix hr hC (dp_var 0 (pv 0)) (dp_val de_int))) (dp_val (e_ix hr hC (dp_var 1 (pv 1)) (dp_val de_int))))) dps_nil))))) : DSs _ c false E _ H.b_law_less)
theorem sc_law_over : FnScope ["one", "two"] ["one", "two"] (defScope s_law_over) := ⟨rfl, rfl, rfl, by decide +kernel, rfl, by decide +kernel, by decide +kernel⟩
theorem bn_law_over : BindsP "_law_over" s_law_over ["one", "two"] := fun _ _ _ _ _ _ us h => match us, h with | [_, _], _ => rfl
theorem ok_law_over (x : Fx K mg) (hC : K = c.K ∧ c.P = P ∧ c.w = w) : Okd P w K mg base CX0 c "_law_over" s_law_over ["one", "two"] 3 false d_law_over := by
    have hK := hC.1
    have sc := sc_law_over
    exact okd_of (k := 2) x.n_law_over sc (by decide) bn_law_over fun f cdv A outer s Hh E hr => ((ds_one (ds_ret (e_call (ok_law_part x hC) hr (by omega) uPass (dps_cons (dp_val (e_mul hK (dp_val (e_ix hr hC (dp_var 0 (pv 0)) (dp_val de_int))) (dp_val (e_ix hr hC (dp_var 1 (pv 1)) (dp_val de_int))))) (dps_cons (dp_val (e_mul hK (dp_val (e_ix hr hC (dp_var 0 (pv 0)) (dp_val de_int))) (dp_val (e_ix hr hC (dp_var 1 (pv 1)) (dp_val de_int))))) dps_nil))))) : DSs _ c false E _ b_law_over)
theorem sc_law : FnScope ["script", "k", "box", "many", "shares", "weights", "most", "due", "two", "falling", "kept", "alike", "mean", "best", "one", "name", "part", "share", "place"] ["script"] (defScope s_law) := ⟨rfl, rfl, rfl, by decide +kernel, rfl, by decide +kernel, by decide +kernel⟩
theorem bn_law : BindsP "law" s_law ["script"] := fun _ _ _ _ _ _ us h => match us, h with | [_], _ => rfl
theorem ok_law (x : Fx K mg) (hC : K = c.K ∧ c.P = P ∧ c.w = w) : Okd P w K mg base CX0 c "law" s_law ["script"] 42 false d_law := by
    have hK := hC.1
    have sc := sc_law
    exact okd_of (k := 41) x.n_law sc (by decide) bn_law fun f cdv A outer s Hh E hr => ((ds_seq (ds_for (passes_of rfl) rfl (di_rg1 (dps_cons (dp_val (b_max2 rfl x.m_max (dps_cons (dp_val de_int) (dps_cons (dp_val (b_min2 rfl x.m_min (dps_cons (dp_val (b_len hC x.m_len (dps_cons (dp_var 0 (pv 0)) dps_nil))) (dps_cons (dp_val de_int) dps_nil)))) dps_nil)))) dps_nil) (by rfl) x.m_range) (dg_name (i := 1) sc.nd rfl (by first | exact .inl rfl | exact .inr rfl)) (by decide)
    (ds_seq (ds_set (i := 2) (e_call (ok_law_box x hC) hr (by omega) uPass (dps_cons (dp_var 0 (pv 0)) (dps_cons (dp_var 1 (pv 1)) dps_nil))) sc.nd rfl (by first | exact .inl rfl | exact .inr rfl) (by decide))
    (ds_seq (ds_set (i := 3) (e_add hK (dp_val de_int) (dp_val (e_callIO (ok_law_take x hC) hr (by omega) uPass (pv 2) (dps_cons (dp_val de_int) dps_nil)))) sc.nd rfl (by first | exact .inl rfl | exact .inr rfl) (by decide))
    (ds_seq (ds_fz [.var 3] (ds_set (i := 4) (de_lc (own := [("name", 15)]) rfl sc.nd (di_rg1 (dps_cons (dp_var 3 (pv 3)) dps_nil) (by rfl) x.m_range) (blkOk_by (N := ["script", "k", "box", "many", "shares", "weights", "most", "due", "two", "falling", "kept", "alike", "mean", "best", "one", "name", "part", "share", "place"]) (sc := defScope s_law) (by decide +kernel)) rfl (by decide) (fun _ _ _ _ _ => (dg_name (i := 15) sc.nd rfl (by first | exact .inl rfl | exact .inr rfl))) (fun _ _ _ _ _ => dts_nil) (fun _ _ _ _ _ => (e_callIO (ok_law_pick x hC) hr (by omega) uPass (pv 2) (dps_cons (dp_val (de_lst (da_cons de_int (da_cons (e_add hK (dp_val de_int) (dp_val (e_callIO (ok_law_take x hC) hr (by omega) uPass (pv 2) (dps_cons (dp_val de_int) dps_nil)))) (da_cons de_int da_nil))))) dps_nil)))) sc.nd rfl (by first | exact .inl rfl | exact .inr rfl) (by decide)))
    (ds_seq (ds_fz [.var 4] (ds_set (i := 5) (b_tuple hK x.m_tuple (dps_cons (dp_val (de_lc (own := [("share", 17)]) rfl sc.nd (di_val hC (de_var 4 (pv 4))) (blkOk_by (N := ["script", "k", "box", "many", "shares", "weights", "most", "due", "two", "falling", "kept", "alike", "mean", "best", "one", "name", "part", "share", "place"]) (sc := defScope s_law) (by decide +kernel)) rfl (by decide) (fun _ _ _ _ _ => (dg_name (i := 17) sc.nd rfl (by first | exact .inl rfl | exact .inr rfl))) (fun _ _ _ _ _ => dts_nil) (fun _ _ _ _ _ => (e_call (ok_law_part x hC) hr (by omega) uPass (dps_cons (dp_var 17 (pv 17)) (dps_cons (dp_val (b_sumA hK rfl x.m_sum (dps_cons (dp_var 4 (pv 4)) dps_nil))) dps_nil)))))) dps_nil)) sc.nd rfl (by first | exact .inl rfl | exact .inr rfl) (by decide)))
    (ds_seq (ds_par2 (i := 12) (j := 13) rfl sc.nd rfl rfl (by decide) rfl rfl (e_call (ok_mean_cost x hC) hr (by omega) uPass (dps_cons (dp_var 5 (pv 5)) dps_nil)) (e_call (ok_best_cost x hC) hr (by omega) uPass (dps_cons (dp_var 5 (pv 5)) dps_nil)) (by decide) (by rfl))
    (ds_seq (ds_set (i := 6) (e_call (ok_law_times x hC) hr (by omega) uPass (dps_cons (dp_var 13 (pv 13)) (dps_cons (dp_val (e_call (ok_law_less x hC) hr (by omega) uPass (dps_cons (dp_val (de_tup (da_cons de_int (da_cons de_int da_nil)))) (dps_cons (dp_val (e_call (ok_law_part x hC) hr (by omega) uPass (dps_cons (dp_val de_int) (dps_cons (dp_val (e_add hK (dp_var 3 (pv 3)) (dp_val de_int))) dps_nil)))) dps_nil)))) dps_nil))) sc.nd rfl (by first | exact .inl rfl | exact .inr rfl) (by decide))
    (ds_seq (ds_if (dt_bool (dw_or (t_lt (dp_val (e_mul hK (dp_val (e_ix hr hC (dp_var 12 (pv 12)) (dp_val de_int))) (dp_val (e_ix hr hC (dp_var 13 (pv 13)) (dp_val de_int))))) (dp_val (e_mul hK (dp_val (e_ix hr hC (dp_var 13 (pv 13)) (dp_val de_int))) (dp_val (e_ix hr hC (dp_var 12 (pv 12)) (dp_val de_int)))))) (dw_or1 (t_gt (dp_val (e_mul hK (dp_val (e_ix hr hC (dp_var 12 (pv 12)) (dp_val de_int))) (dp_val (e_ix hr hC (dp_var 6 (pv 6)) (dp_val de_int))))) (dp_val (e_mul hK (dp_val (e_ix hr hC (dp_var 6 (pv 6)) (dp_val de_int))) (dp_val (e_ix hr hC (dp_var 12 (pv 12)) (dp_val de_int)))))))))
    (ds_one (ds_ret de_bl))
    ds_nil)
    (ds_seq (ds_set (i := 7) (de_tup (da_cons de_int (da_cons de_int da_nil))) sc.nd rfl (by first | exact .inl rfl | exact .inr rfl) (by decide))
    (ds_seq (ds_for (passes_of rfl) rfl (di_rg1 (dps_cons (dp_var 3 (pv 3)) dps_nil) (by rfl) x.m_range) (dg_name (i := 8) sc.nd rfl (by first | exact .inl rfl | exact .inr rfl)) (by decide)
    (ds_one (ds_for (passes_of rfl) rfl (di_rg1 (dps_cons (dp_var 8 (pv 8)) dps_nil) (by rfl) x.m_range) (dg_name (i := 14) sc.nd rfl (by first | exact .inl rfl | exact .inr rfl)) (by decide)
    (ds_seq (ds_set (i := 16) (e_call (ok_law_times x hC) hr (by omega) uPass (dps_cons (dp_val (e_ix hr hC (dp_var 5 (pv 5)) (dp_var 14 (pv 14)))) (dps_cons (dp_val (e_ix hr hC (dp_var 5 (pv 5)) (dp_var 8 (pv 8)))) dps_nil))) sc.nd rfl (by first | exact .inl rfl | exact .inr rfl) (by decide))
    (ds_one (ds_set (i := 7) (e_call (ok_law_plus x hC) hr (by omega) uPass (dps_cons (dp_var 7 (pv 7)) (dps_cons (dp_val (e_call (ok_law_over x hC) hr (by omega) uPass (dps_cons (dp_val (e_call (ok_law_times x hC) hr (by omega) uPass (dps_cons (dp_val (de_tup (da_cons de_int (da_cons de_int da_nil)))) (dps_cons (dp_var 16 (pv 16)) dps_nil)))) (dps_cons (dp_val (e_call (ok_law_plus x hC) hr (by omega) uPass (dps_cons (dp_val (e_ix hr hC (dp_var 5 (pv 5)) (dp_var 14 (pv 14)))) (dps_cons (dp_val (e_ix hr hC (dp_var 5 (pv 5)) (dp_var 8 (pv 8)))) dps_nil)))) dps_nil)))) dps_nil))) sc.nd rfl (by first | exact .inl rfl | exact .inr rfl) (by decide)))))))
    (ds_seq (ds_if (dt_not (dt_of (dp_val (e_call (ok_law_same x hC 40) hr (by omega) uPass (dps_cons (dp_var 12 (pv 12)) (dps_cons (dp_var 7 (pv 7)) dps_nil))))))
    (ds_one (ds_ret de_bl))
    ds_nil)
    (ds_seq (ds_set (i := 9) (b_sortedR hr hK x.m_sorted (dps_cons (dp_var 4 (pv 4)) dps_nil)) sc.nd rfl (by first | exact .inl rfl | exact .inr rfl) (by decide))
    (ds_seq (ds_fz [.var 9] (ds_set (i := 10) (e_call (ok_law_part x hC) hr (by omega) uPass (dps_cons (dp_val (b_sumA hK rfl x.m_sum (dps_cons (dp_val (de_lc (own := [("place", 18), ("share", 17)]) rfl sc.nd (di_enum hK (da_cons (de_var 9 (pv 9)) da_nil) (by rfl) x.m_enumerate) (blkOk_by (N := ["script", "k", "box", "many", "shares", "weights", "most", "due", "two", "falling", "kept", "alike", "mean", "best", "one", "name", "part", "share", "place"]) (sc := defScope s_law) (by decide +kernel)) rfl (by decide) (fun _ _ _ _ _ => (dg_tup hK rfl (.cons (dg_name (i := 18) sc.nd rfl (by first | exact .inl rfl | exact .inr rfl)) (by rfl) (.cons (dg_name (i := 17) sc.nd rfl (by first | exact .inl rfl | exact .inr rfl)) (by rfl) .nil)))) (fun _ _ _ _ _ => dts_nil) (fun _ _ _ _ _ => (e_mul hK (dp_var 17 (pv 17)) (dp_val (e_add hK (dp_var 18 (pv 18)) (dp_val de_int))))))) dps_nil))) (dps_cons (dp_val (b_sumA hK rfl x.m_sum (dps_cons (dp_var 4 (pv 4)) dps_nil))) dps_nil))) sc.nd rfl (by first | exact .inl rfl | exact .inr rfl) (by decide)))
    (ds_seq (ds_if (dt_not (dt_of (dp_val (e_call (ok_law_same x hC 40) hr (by omega) uPass (dps_cons (dp_var 13 (pv 13)) (dps_cons (dp_var 10 (pv 10)) dps_nil))))))
    (ds_one (ds_ret de_bl))
    ds_nil)
    (ds_seq (ds_set (i := 11) (e_mulA hK (dp_val (de_tup (da_cons (e_call (ok_law_part x hC) hr (by omega) uPass (dps_cons (dp_val de_int) (dps_cons (dp_var 3 (pv 3)) dps_nil))) da_nil))) (dp_var 3 (pv 3))) sc.nd rfl (by first | exact .inl rfl | exact .inr rfl) (by decide))
    (ds_one (ds_fz [.var 11] (ds_if (dt_bool (dw_or (dt_not (dt_of (dp_val (e_call (ok_law_same x hC 40) hr (by omega) uPass (dps_cons (dp_val (e_call (ok_mean_cost x hC) hr (by omega) uPass (dps_cons (dp_var 11 (pv 11)) dps_nil))) (dps_cons (dp_val (e_call (ok_law_part x hC) hr (by omega) uPass (dps_cons (dp_val (e_add hK (dp_var 3 (pv 3)) (dp_val de_int))) (dps_cons (dp_val de_int) dps_nil)))) dps_nil)))))) (dw_or1 (dt_not (dt_of (dp_val (e_call (ok_law_same x hC 40) hr (by omega) uPass (dps_cons (dp_val (e_call (ok_best_cost x hC) hr (by omega) uPass (dps_cons (dp_var 11 (pv 11)) dps_nil))) (dps_cons (dp_val (e_call (ok_law_part x hC) hr (by omega) uPass (dps_cons (dp_val (e_add hK (dp_var 3 (pv 3)) (dp_val de_int))) (dps_cons (dp_val de_int) dps_nil)))) dps_nil)))))))))
    (ds_one (ds_ret de_bl))
    ds_nil))))))))))))))))))
    (ds_one (ds_ret de_bl))) : DSs _ c false E _ b_law)
end
end G_k57_the_bound_of_means
namespace G_k57_the_bound_of_means
set_option autoImplicit false
open PySem L2 U
def v_law_pick_1 (x0 : (List Int)) (x1 : (List Int)) : Int × List Int := TL.brW TL.dI default (H.n_law_pick ((TL.eL D.int) x0) ((TL.eL D.int) x1))
def g_law_pick_1 (x0 : (List Int)) (x1 : (List Int)) : Prop := ∃ y : Int × List Int, H.n_law_pick ((TL.eL D.int) x0) ((TL.eL D.int) x1) = .ok (TL.jP D.int (TL.eL D.int) y)
theorem r_law_pick_1 (x0 : (List Int)) (x1 : (List Int)) (hg : g_law_pick_1 x0 x1) : H.n_law_pick ((TL.eL D.int) x0) ((TL.eL D.int) x1) = .ok (TL.jP D.int (TL.eL D.int) (v_law_pick_1 x0 x1)) := TL.br_w TL.dcI hg
theorem y_law_pick_1 (x0 : (List Int)) (x1 : (List Int)) {y : Int × List Int} (h : H.n_law_pick ((TL.eL D.int) x0) ((TL.eL D.int) x1) = .ok (TL.jP D.int (TL.eL D.int) y)) : g_law_pick_1 x0 x1 ∧ v_law_pick_1 x0 x1 = y := ⟨⟨y, h⟩, TL.brW_ok TL.dcI h⟩
def v_pair_ahead (weights1 : (List (Int × Int))) (one2 : Int) (two3 : Int) : (Int × Int) :=
  (H.v_over (TL.ixV weights1 one2) (H.v_plus (TL.ixV weights1 one2) (TL.ixV weights1 two3)))
def g_pair_ahead (weights1 : (List (Int × Int))) (one2 : Int) (two3 : Int) : Prop :=
  TL.inR weights1.length one2 ∧ TL.inR weights1.length one2 ∧ TL.inR weights1.length two3 ∧ H.g_plus (TL.ixV weights1 one2) (TL.ixV weights1 two3) ∧ H.g_over (TL.ixV weights1 one2) (H.v_plus (TL.ixV weights1 one2) (TL.ixV weights1 two3))
theorem r_pair_ahead (weights1 : (List (Int × Int))) (one2 : Int) (two3 : Int) (hg : g_pair_ahead weights1 one2 two3) : n_pair_ahead ((TL.eT (TL.eP2 D.int D.int)) weights1) (D.int one2) (D.int two3) = .ok ((TL.eP2 D.int D.int) (v_pair_ahead weights1 one2 two3)) := by
  unfold g_pair_ahead at hg
  unfold n_pair_ahead v_pair_ahead
  obtain ⟨hq, hg⟩ := hg
  refine TL.Mb (TL.t_ixT (e := (TL.eP2 D.int D.int)) (l := weights1) (i := one2) hq) ?_
  obtain ⟨hq, hg⟩ := hg
  refine TL.Mb (TL.t_ixT (e := (TL.eP2 D.int D.int)) (l := weights1) (i := one2) hq) ?_
  obtain ⟨hq, hg⟩ := hg
  refine TL.Mb (TL.t_ixT (e := (TL.eP2 D.int D.int)) (l := weights1) (i := two3) hq) ?_
  obtain ⟨hq, hg⟩ := hg
  refine TL.Mb (H.r_plus (TL.ixV weights1 one2) (TL.ixV weights1 two3) hq) ?_
  have hq := hg
  refine TL.Mb (H.r_over (TL.ixV weights1 one2) (H.v_plus (TL.ixV weights1 one2) (TL.ixV weights1 two3)) hq) ?_
  rfl
def v_mean_cost_b1 (weights1 : (List (Int × Int))) (d41 : Int) (s44 : ((Int × Int))) (d46 : Int) : ((Int × Int)) :=
  (H.v_plus s44 (H.v_times ((2 : Int), (1 : Int)) (H.v_times (TL.ixV weights1 d41) (v_pair_ahead weights1 d46 d41))))
def g_mean_cost_b1 (weights1 : (List (Int × Int))) (d41 : Int) (s44 : ((Int × Int))) (d46 : Int) : Prop :=
  TL.inR weights1.length d41 ∧ g_pair_ahead weights1 d46 d41 ∧ H.g_times (TL.ixV weights1 d41) (v_pair_ahead weights1 d46 d41) ∧ H.g_times ((2 : Int), (1 : Int)) (H.v_times (TL.ixV weights1 d41) (v_pair_ahead weights1 d46 d41)) ∧ H.g_plus s44 (H.v_times ((2 : Int), (1 : Int)) (H.v_times (TL.ixV weights1 d41) (v_pair_ahead weights1 d46 d41)))
theorem r_mean_cost_b1 (weights1 : (List (Int × Int))) (d41 : Int) (s44 : ((Int × Int))) (d46 : Int) (hg : g_mean_cost_b1 weights1 d41 s44 d46) : n_mean_cost_b1 ((TL.eT (TL.eP2 D.int D.int)) weights1) (D.int d41) ((TL.eP2 D.int D.int) s44) (D.int d46) = .ok ((TL.eP2 D.int D.int) (v_mean_cost_b1 weights1 d41 s44 d46)) := by
  unfold g_mean_cost_b1 at hg
  unfold n_mean_cost_b1 v_mean_cost_b1
  obtain ⟨hq, hg⟩ := hg
  refine TL.Mb (TL.t_ixT (e := (TL.eP2 D.int D.int)) (l := weights1) (i := d41) hq) ?_
  obtain ⟨hq, hg⟩ := hg
  refine TL.Mb (r_pair_ahead weights1 d46 d41 hq) ?_
  obtain ⟨hq, hg⟩ := hg
  refine TL.Mb (H.r_times (TL.ixV weights1 d41) (v_pair_ahead weights1 d46 d41) hq) ?_
  obtain ⟨hq, hg⟩ := hg
  refine TL.Mb (H.r_times ((2 : Int), (1 : Int)) (H.v_times (TL.ixV weights1 d41) (v_pair_ahead weights1 d46 d41)) hq) ?_
  have hq := hg
  refine TL.Mb (H.r_plus s44 (H.v_times ((2 : Int), (1 : Int)) (H.v_times (TL.ixV weights1 d41) (v_pair_ahead weights1 d46 d41))) hq) ?_
  rfl
def v_mean_cost_b2 (weights1 : (List (Int × Int))) (s38 : ((Int × Int))) (d41 : Int) : ((Int × Int)) :=
  (List.foldl (v_mean_cost_b1 weights1 d41) s38 (ups d41.toNat))
def g_mean_cost_b2 (weights1 : (List (Int × Int))) (s38 : ((Int × Int))) (d41 : Int) : Prop :=
  TL.rgG d41 ∧ TL.gFor (g_mean_cost_b1 weights1 d41) (v_mean_cost_b1 weights1 d41) (ups d41.toNat) s38
theorem r_mean_cost_b2 (weights1 : (List (Int × Int))) (s38 : ((Int × Int))) (d41 : Int) (hg : g_mean_cost_b2 weights1 s38 d41) : n_mean_cost_b2 ((TL.eT (TL.eP2 D.int D.int)) weights1) ((TL.eP2 D.int D.int) s38) (D.int d41) = .ok ((TL.eP2 D.int D.int) (v_mean_cost_b2 weights1 s38 d41)) := by
  unfold g_mean_cost_b2 at hg
  unfold n_mean_cost_b2 v_mean_cost_b2
  obtain ⟨hq, hg⟩ := hg
  refine TL.Mb (@TL.t_rg1 _ hq) ?_
  have hq := hg
  refine TL.Mb (TL.tForS (j := (TL.eP2 D.int D.int)) (e := D.int) (vb := v_mean_cost_b1 weights1 d41) (gb := g_mean_cost_b1 weights1 d41) (fun s x hg => r_mean_cost_b1 weights1 d41 s x hg) (ups d41.toNat) s38 hq) ?_
  rfl
def v_mean_cost (weights1 : (List (Int × Int))) : (Int × Int) :=
  (List.foldl (v_mean_cost_b2 weights1) ((1 : Int), (1 : Int)) (ups (weights1.length : Int).toNat))
def g_mean_cost (weights1 : (List (Int × Int))) : Prop :=
  TL.rgG (weights1.length : Int) ∧ TL.gFor (g_mean_cost_b2 weights1) (v_mean_cost_b2 weights1) (ups (weights1.length : Int).toNat) ((1 : Int), (1 : Int))
theorem r_mean_cost (weights1 : (List (Int × Int))) (hg : g_mean_cost weights1) : n_mean_cost ((TL.eT (TL.eP2 D.int D.int)) weights1) = .ok ((TL.eP2 D.int D.int) (v_mean_cost weights1)) := by
  unfold g_mean_cost at hg
  unfold n_mean_cost v_mean_cost
  refine TL.Mb (TL.t_lenT (TL.eP2 D.int D.int) weights1) ?_
  obtain ⟨hq, hg⟩ := hg
  refine TL.Mb (@TL.t_rg1 _ hq) ?_
  have hq := hg
  refine TL.Mb (TL.tForS (j := (TL.eP2 D.int D.int)) (e := D.int) (vb := v_mean_cost_b2 weights1) (gb := g_mean_cost_b2 weights1) (fun s x hg => r_mean_cost_b2 weights1 s x hg) (ups (weights1.length : Int).toNat) ((1 : Int), (1 : Int)) hq) ?_
  rfl
def v_in_order_all_b1 (d54 : ((Int × Int) × Int)) (d57 : ((Int × Int) × Int)) : (Option Int) :=
  cond (decide ((d57.1.1 * d54.1.2) ≤ (d54.1.1 * d57.1.2)))
  ((some (1 : Int)))
  (none)
def g_in_order_all_b1 (d54 : ((Int × Int) × Int)) (d57 : ((Int × Int) × Int)) : Prop :=
  TL.mulG d57.1.1 d54.1.2 ∧ TL.mulG d54.1.1 d57.1.2
theorem r_in_order_all_b1 (d54 : ((Int × Int) × Int)) (d57 : ((Int × Int) × Int)) (hg : g_in_order_all_b1 d54 d57) : n_in_order_all_b1 ((TL.eP2 (TL.eP2 D.int D.int) D.int) d54) ((TL.eP2 (TL.eP2 D.int D.int) D.int) d57) = .ok ((Option.map D.int) (v_in_order_all_b1 d54 d57)) := by
  unfold g_in_order_all_b1 at hg
  unfold n_in_order_all_b1 v_in_order_all_b1
  refine TL.Mb (TL.t_ixP20 (TL.eP2 D.int D.int) D.int d57) ?_
  refine TL.Mb (TL.t_ixP20 D.int D.int d57.1) ?_
  refine TL.Mb (TL.t_ixP20 (TL.eP2 D.int D.int) D.int d54) ?_
  refine TL.Mb (TL.t_ixP21 D.int D.int d54.1) ?_
  obtain ⟨hq, hg⟩ := hg
  refine TL.Mb (@TL.t_mul d57.1.1 d54.1.2 hq) ?_
  refine TL.Mb (TL.t_ixP20 (TL.eP2 D.int D.int) D.int d54) ?_
  refine TL.Mb (TL.t_ixP20 D.int D.int d54.1) ?_
  refine TL.Mb (TL.t_ixP20 (TL.eP2 D.int D.int) D.int d57) ?_
  refine TL.Mb (TL.t_ixP21 D.int D.int d57.1) ?_
  have hq := hg
  refine TL.Mb (@TL.t_mul d54.1.1 d57.1.2 hq) ?_
  refine TL.Mb (TL.t_le _ _) ?_
  refine TL.Mc (e := (Option.map D.int)) ?_ ?_
  · intro hc1
    rfl
  · intro hc1
    rfl
def v_in_order_all_b2  (s50 : ((List ((Int × Int) × Int)))) (d54 : ((Int × Int) × Int)) : ((List ((Int × Int) × Int))) :=
  TL.letV (((List.filterMap (v_in_order_all_b1 d54) s50).length : Int)) fun t84 =>
  (((TL.cutV s50 none (some t84)) ++ [d54]) ++ (TL.cutV s50 (some t84) none))
def g_in_order_all_b2  (s50 : ((List ((Int × Int) × Int)))) (d54 : ((Int × Int) × Int)) : Prop :=
  TL.lenG s50.length ∧ (∀ x ∈ s50, g_in_order_all_b1 d54 x) ∧ ∀ t84, t84 = ((List.filterMap (v_in_order_all_b1 d54) s50).length : Int) → TL.lenG ((TL.cutV s50 none (some t84)).length + [d54].length) ∧ TL.lenG (((TL.cutV s50 none (some t84)) ++ [d54]).length + (TL.cutV s50 (some t84) none).length)
theorem r_in_order_all_b2  (s50 : ((List ((Int × Int) × Int)))) (d54 : ((Int × Int) × Int)) (hg : g_in_order_all_b2  s50 d54) : n_in_order_all_b2  ((TL.eL (TL.eP2 (TL.eP2 D.int D.int) D.int)) s50) ((TL.eP2 (TL.eP2 D.int D.int) D.int) d54) = .ok ((TL.eL (TL.eP2 (TL.eP2 D.int D.int) D.int)) (v_in_order_all_b2  s50 d54)) := by
  unfold g_in_order_all_b2 at hg
  unfold n_in_order_all_b2 v_in_order_all_b2
  refine TL.Mb (TL.t_seqL (TL.eP2 (TL.eP2 D.int D.int) D.int) s50) ?_
  obtain ⟨hq, hg⟩ := hg
  refine TL.Mb (TL.t_ln (e := (TL.eP2 (TL.eP2 D.int D.int) D.int)) (l := s50) hq) ?_
  obtain ⟨hq, hg⟩ := hg
  refine TL.Mb (TL.tFm (e := (TL.eP2 (TL.eP2 D.int D.int) D.int)) (c := D.int) (vb := v_in_order_all_b1 d54) (gb := g_in_order_all_b1 d54) (fun x hg => r_in_order_all_b1 d54 x hg) s50 hq) ?_
  refine TL.Ml (e := D.int) (c := (TL.eL (TL.eP2 (TL.eP2 D.int D.int) D.int))) (x := ((List.filterMap (v_in_order_all_b1 d54) s50).length : Int)) (TL.t_lenL D.int (List.filterMap (v_in_order_all_b1 d54) s50)) ?_
  intro t84 hc2
  replace hg := hg t84 hc2
  refine TL.Mb (TL.t_asI _) ?_
  refine TL.Mb (TL.t_slL (TL.eP2 (TL.eP2 D.int D.int) D.int) s50 none (some t84)) ?_
  obtain ⟨hq, hg⟩ := hg
  refine TL.Mb (TL.t_addL (e := (TL.eP2 (TL.eP2 D.int D.int) D.int)) (l := (TL.cutV s50 none (some t84))) (r := [d54]) hq) ?_
  refine TL.Mb (TL.t_asI _) ?_
  refine TL.Mb (TL.t_slL (TL.eP2 (TL.eP2 D.int D.int) D.int) s50 (some t84) none) ?_
  have hq := hg
  refine TL.Mb (TL.t_addL (e := (TL.eP2 (TL.eP2 D.int D.int) D.int)) (l := ((TL.cutV s50 none (some t84)) ++ [d54])) (r := (TL.cutV s50 (some t84) none)) hq) ?_
  rfl
def v_in_order_all (rows1 : (List ((Int × Int) × Int))) : (List ((Int × Int) × Int)) :=
  (List.foldl (v_in_order_all_b2) [] rows1)
def g_in_order_all (rows1 : (List ((Int × Int) × Int))) : Prop :=
  TL.gFor (g_in_order_all_b2) (v_in_order_all_b2) rows1 []
theorem r_in_order_all (rows1 : (List ((Int × Int) × Int))) (hg : g_in_order_all rows1) : n_in_order_all ((TL.eL (TL.eP2 (TL.eP2 D.int D.int) D.int)) rows1) = .ok ((TL.eL (TL.eP2 (TL.eP2 D.int D.int) D.int)) (v_in_order_all rows1)) := by
  unfold g_in_order_all at hg
  unfold n_in_order_all v_in_order_all
  refine TL.Mb (TL.t_seqL (TL.eP2 (TL.eP2 D.int D.int) D.int) rows1) ?_
  have hq := hg
  refine TL.Mb (TL.tForS (j := (TL.eL (TL.eP2 (TL.eP2 D.int D.int) D.int))) (e := (TL.eP2 (TL.eP2 D.int D.int) D.int)) (vb := v_in_order_all_b2) (gb := g_in_order_all_b2) (fun s x hg => r_in_order_all_b2 s x hg) rows1 [] hq) ?_
  rfl
def v_best_cost_b1  (s10 : ((List ((Int × Int) × Int)))) (d12 : (Int × Int)) : ((List ((Int × Int) × Int))) :=
  TL.letV ((s10 ++ [(d12, (s10.length : Int))])) fun r15 =>
  r15
def g_best_cost_b1  (s10 : ((List ((Int × Int) × Int)))) (d12 : (Int × Int)) : Prop :=
  TL.appG s10.length
theorem r_best_cost_b1  (s10 : ((List ((Int × Int) × Int)))) (d12 : (Int × Int)) (hg : g_best_cost_b1  s10 d12) : n_best_cost_b1  ((TL.eL (TL.eP2 (TL.eP2 D.int D.int) D.int)) s10) ((TL.eP2 D.int D.int) d12) = .ok ((TL.eL (TL.eP2 (TL.eP2 D.int D.int) D.int)) (v_best_cost_b1  s10 d12)) := by
  unfold g_best_cost_b1 at hg
  unfold n_best_cost_b1 v_best_cost_b1
  refine TL.Mb (TL.t_lenL (TL.eP2 (TL.eP2 D.int D.int) D.int) s10) ?_
  have hq := hg
  refine TL.Ml (e := (fun z => (D.non, (TL.eL (TL.eP2 (TL.eP2 D.int D.int) D.int)) z))) (c := (TL.eL (TL.eP2 (TL.eP2 D.int D.int) D.int))) (x := (s10 ++ [(d12, (s10.length : Int))])) (TL.t_app (e := (TL.eP2 (TL.eP2 D.int D.int) D.int)) (l := s10) (x := (d12, (s10.length : Int))) hq) ?_
  intro r15 hc1
  rfl
def v_best_cost_b2 (weights1 : (List (Int × Int))) (s40 : ((Int × Int))) (d44 : (Int × ((Int × Int) × Int))) : ((Int × Int)) :=
  (H.v_plus s40 (H.v_times d44.2.1 (((weights1.length : Int) - d44.1), (1 : Int))))
def g_best_cost_b2 (weights1 : (List (Int × Int))) (s40 : ((Int × Int))) (d44 : (Int × ((Int × Int) × Int))) : Prop :=
  H.g_times d44.2.1 (((weights1.length : Int) - d44.1), (1 : Int)) ∧ H.g_plus s40 (H.v_times d44.2.1 (((weights1.length : Int) - d44.1), (1 : Int)))
theorem r_best_cost_b2 (weights1 : (List (Int × Int))) (s40 : ((Int × Int))) (d44 : (Int × ((Int × Int) × Int))) (hg : g_best_cost_b2 weights1 s40 d44) : n_best_cost_b2 ((TL.eT (TL.eP2 D.int D.int)) weights1) ((TL.eP2 D.int D.int) s40) ((TL.eP2 D.int (TL.eP2 (TL.eP2 D.int D.int) D.int)) d44) = .ok ((TL.eP2 D.int D.int) (v_best_cost_b2 weights1 s40 d44)) := by
  unfold g_best_cost_b2 at hg
  unfold n_best_cost_b2 v_best_cost_b2
  refine TL.Mb rfl ?_
  refine TL.Mb rfl ?_
  refine TL.Mb (TL.t_lenT (TL.eP2 D.int D.int) weights1) ?_
  refine TL.Mb (TL.t_sub _ _) ?_
  obtain ⟨hq, hg⟩ := hg
  refine TL.Mb (H.r_times d44.2.1 (((weights1.length : Int) - d44.1), (1 : Int)) hq) ?_
  have hq := hg
  refine TL.Mb (H.r_plus s40 (H.v_times d44.2.1 (((weights1.length : Int) - d44.1), (1 : Int))) hq) ?_
  rfl
def v_best_cost (weights1 : (List (Int × Int))) : (Int × Int) :=
  (List.foldl (v_best_cost_b2 weights1) ((0 : Int), (1 : Int)) (TL.enV 0 (v_in_order_all (List.foldl (v_best_cost_b1) [] weights1))))
def g_best_cost (weights1 : (List (Int × Int))) : Prop :=
  TL.gFor (g_best_cost_b1) (v_best_cost_b1) weights1 [] ∧ g_in_order_all (List.foldl (v_best_cost_b1) [] weights1) ∧ TL.gFor (g_best_cost_b2 weights1) (v_best_cost_b2 weights1) (TL.enV 0 (v_in_order_all (List.foldl (v_best_cost_b1) [] weights1))) ((0 : Int), (1 : Int))
theorem r_best_cost (weights1 : (List (Int × Int))) (hg : g_best_cost weights1) : n_best_cost ((TL.eT (TL.eP2 D.int D.int)) weights1) = .ok ((TL.eP2 D.int D.int) (v_best_cost weights1)) := by
  unfold g_best_cost at hg
  unfold n_best_cost v_best_cost
  refine TL.Mb (TL.t_seqT (TL.eP2 D.int D.int) weights1) ?_
  obtain ⟨hq, hg⟩ := hg
  refine TL.Mb (TL.tForS (j := (TL.eL (TL.eP2 (TL.eP2 D.int D.int) D.int))) (e := (TL.eP2 D.int D.int)) (vb := v_best_cost_b1) (gb := g_best_cost_b1) (fun s x hg => r_best_cost_b1 s x hg) weights1 [] hq) ?_
  obtain ⟨hq, hg⟩ := hg
  refine TL.Mb (r_in_order_all (List.foldl (v_best_cost_b1) [] weights1) hq) ?_
  refine TL.Mb (TL.t_enL (TL.eP2 (TL.eP2 D.int D.int) D.int) (v_in_order_all (List.foldl (v_best_cost_b1) [] weights1))) ?_
  have hq := hg
  refine TL.Mb (TL.tForS (j := (TL.eP2 D.int D.int)) (e := (TL.eP2 D.int (TL.eP2 (TL.eP2 D.int D.int) D.int))) (vb := v_best_cost_b2 weights1) (gb := g_best_cost_b2 weights1) (fun s x hg => r_best_cost_b2 weights1 s x hg) (TL.enV 0 (v_in_order_all (List.foldl (v_best_cost_b1) [] weights1))) ((0 : Int), (1 : Int)) hq) ?_
  rfl
def v_law_over (one1 : (Int × Int)) (two2 : (Int × Int)) : (Int × Int) :=
  (H.v_law_part (one1.1 * two2.2) (one1.2 * two2.1))
def g_law_over (one1 : (Int × Int)) (two2 : (Int × Int)) : Prop :=
  TL.mulG one1.1 two2.2 ∧ TL.mulG one1.2 two2.1 ∧ H.g_law_part (one1.1 * two2.2) (one1.2 * two2.1)
theorem r_law_over (one1 : (Int × Int)) (two2 : (Int × Int)) (hg : g_law_over one1 two2) : n_law_over ((TL.eP2 D.int D.int) one1) ((TL.eP2 D.int D.int) two2) = .ok ((TL.eP2 D.int D.int) (v_law_over one1 two2)) := by
  unfold g_law_over at hg
  unfold n_law_over v_law_over
  refine TL.Mb (TL.t_ixP20 D.int D.int one1) ?_
  refine TL.Mb (TL.t_ixP21 D.int D.int two2) ?_
  obtain ⟨hq, hg⟩ := hg
  refine TL.Mb (@TL.t_mul one1.1 two2.2 hq) ?_
  refine TL.Mb (TL.t_ixP21 D.int D.int one1) ?_
  refine TL.Mb (TL.t_ixP20 D.int D.int two2) ?_
  obtain ⟨hq, hg⟩ := hg
  refine TL.Mb (@TL.t_mul one1.2 two2.1 hq) ?_
  have hq := hg
  refine TL.Mb (H.r_law_part (one1.1 * two2.2) (one1.2 * two2.1) hq) ?_
  rfl
def v_law_b1  (b281 : (List Int)) (d274 : Int) : (Int × (List Int)) :=
  TL.letV (H.v_law_take b281 (9 : Int)) fun r282 =>
  TL.letV (v_law_pick_1 r282.2 [(1 : Int), ((1 : Int) + r282.1), (1000 : Int)]) fun r286 =>
  (r286.1, r286.2)
def g_law_b1  (b281 : (List Int)) (d274 : Int) : Prop :=
  H.g_law_take b281 (9 : Int) ∧ (∀ r282, r282 = (H.v_law_take b281 (9 : Int)) → g_law_pick_1 r282.2 [(1 : Int), ((1 : Int) + r282.1), (1000 : Int)])
theorem r_law_b1  (b281 : (List Int)) (d274 : Int) (hg : g_law_b1  b281 d274) : n_law_b1  ((TL.eL D.int) b281) (D.int d274) = .ok ((TL.jP D.int (TL.eL D.int)) (v_law_b1  b281 d274)) := by
  unfold g_law_b1 at hg
  unfold n_law_b1 v_law_b1
  obtain ⟨hq, hg⟩ := hg
  refine TL.Ml (e := (TL.jP D.int (TL.eL D.int))) (c := (TL.jP D.int (TL.eL D.int))) (x := H.v_law_take b281 (9 : Int)) (H.r_law_take b281 (9 : Int) hq) ?_
  intro r282 hc8
  replace hg := hg r282 hc8
  refine TL.Mb (TL.t_add _ _) ?_
  have hq := hg
  refine TL.Ml (e := (TL.jP D.int (TL.eL D.int))) (c := (TL.jP D.int (TL.eL D.int))) (x := v_law_pick_1 r282.2 [(1 : Int), ((1 : Int) + r282.1), (1000 : Int)]) (r_law_pick_1 r282.2 [(1 : Int), ((1 : Int) + r282.1), (1000 : Int)] hq) ?_
  intro r286 hc9
  rfl
def v_law_b2 (l290 : ((List Int) × (List Int))) (d294 : Int) : (Int × Int) :=
  (H.v_law_part d294 l290.1.sum)
def g_law_b2 (l290 : ((List Int) × (List Int))) (d294 : Int) : Prop :=
  H.g_law_part d294 l290.1.sum
theorem r_law_b2 (l290 : ((List Int) × (List Int))) (d294 : Int) (hg : g_law_b2 l290 d294) : n_law_b2 ((TL.jP (List.map D.int) (TL.eL D.int)) l290) (D.int d294) = .ok ((TL.eP2 D.int D.int) (v_law_b2 l290 d294)) := by
  unfold g_law_b2 at hg
  unfold n_law_b2 v_law_b2
  refine TL.Mb (TL.t_sumL l290.1) ?_
  have hq := hg
  refine TL.Mb (H.r_law_part d294 l290.1.sum hq) ?_
  rfl
def v_law_b3 (t303 : (List (Int × Int))) (d353 : Int) (s356 : ((Int × Int))) (d359 : Int) : ((Int × Int)) :=
  (H.v_law_plus s356 (v_law_over (H.v_law_times ((2 : Int), (1 : Int)) (H.v_law_times (TL.ixV t303 d359) (TL.ixV t303 d353))) (H.v_law_plus (TL.ixV t303 d359) (TL.ixV t303 d353))))
def g_law_b3 (t303 : (List (Int × Int))) (d353 : Int) (s356 : ((Int × Int))) (d359 : Int) : Prop :=
  TL.inR t303.length d359 ∧ TL.inR t303.length d353 ∧ H.g_law_times (TL.ixV t303 d359) (TL.ixV t303 d353) ∧ H.g_law_times ((2 : Int), (1 : Int)) (H.v_law_times (TL.ixV t303 d359) (TL.ixV t303 d353)) ∧ TL.inR t303.length d359 ∧ TL.inR t303.length d353 ∧ H.g_law_plus (TL.ixV t303 d359) (TL.ixV t303 d353) ∧ g_law_over (H.v_law_times ((2 : Int), (1 : Int)) (H.v_law_times (TL.ixV t303 d359) (TL.ixV t303 d353))) (H.v_law_plus (TL.ixV t303 d359) (TL.ixV t303 d353)) ∧ H.g_law_plus s356 (v_law_over (H.v_law_times ((2 : Int), (1 : Int)) (H.v_law_times (TL.ixV t303 d359) (TL.ixV t303 d353))) (H.v_law_plus (TL.ixV t303 d359) (TL.ixV t303 d353)))
theorem r_law_b3 (t303 : (List (Int × Int))) (d353 : Int) (s356 : ((Int × Int))) (d359 : Int) (hg : g_law_b3 t303 d353 s356 d359) : n_law_b3 ((TL.eT (TL.eP2 D.int D.int)) t303) (D.int d353) ((TL.eP2 D.int D.int) s356) (D.int d359) = .ok ((TL.eP2 D.int D.int) (v_law_b3 t303 d353 s356 d359)) := by
  unfold g_law_b3 at hg
  unfold n_law_b3 v_law_b3
  obtain ⟨hq, hg⟩ := hg
  refine TL.Mb (TL.t_ixT (e := (TL.eP2 D.int D.int)) (l := t303) (i := d359) hq) ?_
  obtain ⟨hq, hg⟩ := hg
  refine TL.Mb (TL.t_ixT (e := (TL.eP2 D.int D.int)) (l := t303) (i := d353) hq) ?_
  obtain ⟨hq, hg⟩ := hg
  refine TL.Mb (H.r_law_times (TL.ixV t303 d359) (TL.ixV t303 d353) hq) ?_
  obtain ⟨hq, hg⟩ := hg
  refine TL.Mb (H.r_law_times ((2 : Int), (1 : Int)) (H.v_law_times (TL.ixV t303 d359) (TL.ixV t303 d353)) hq) ?_
  obtain ⟨hq, hg⟩ := hg
  refine TL.Mb (TL.t_ixT (e := (TL.eP2 D.int D.int)) (l := t303) (i := d359) hq) ?_
  obtain ⟨hq, hg⟩ := hg
  refine TL.Mb (TL.t_ixT (e := (TL.eP2 D.int D.int)) (l := t303) (i := d353) hq) ?_
  obtain ⟨hq, hg⟩ := hg
  refine TL.Mb (H.r_law_plus (TL.ixV t303 d359) (TL.ixV t303 d353) hq) ?_
  obtain ⟨hq, hg⟩ := hg
  refine TL.Mb (r_law_over (H.v_law_times ((2 : Int), (1 : Int)) (H.v_law_times (TL.ixV t303 d359) (TL.ixV t303 d353))) (H.v_law_plus (TL.ixV t303 d359) (TL.ixV t303 d353)) hq) ?_
  have hq := hg
  refine TL.Mb (H.r_law_plus s356 (v_law_over (H.v_law_times ((2 : Int), (1 : Int)) (H.v_law_times (TL.ixV t303 d359) (TL.ixV t303 d353))) (H.v_law_plus (TL.ixV t303 d359) (TL.ixV t303 d353))) hq) ?_
  rfl
def v_law_b4 (t303 : (List (Int × Int))) (s349 : ((Int × Int))) (d353 : Int) : ((Int × Int)) :=
  (List.foldl (v_law_b3 t303 d353) s349 (ups d353.toNat))
def g_law_b4 (t303 : (List (Int × Int))) (s349 : ((Int × Int))) (d353 : Int) : Prop :=
  TL.rgG d353 ∧ TL.gFor (g_law_b3 t303 d353) (v_law_b3 t303 d353) (ups d353.toNat) s349
theorem r_law_b4 (t303 : (List (Int × Int))) (s349 : ((Int × Int))) (d353 : Int) (hg : g_law_b4 t303 s349 d353) : n_law_b4 ((TL.eT (TL.eP2 D.int D.int)) t303) ((TL.eP2 D.int D.int) s349) (D.int d353) = .ok ((TL.eP2 D.int D.int) (v_law_b4 t303 s349 d353)) := by
  unfold g_law_b4 at hg
  unfold n_law_b4 v_law_b4
  obtain ⟨hq, hg⟩ := hg
  refine TL.Mb (@TL.t_rg1 _ hq) ?_
  have hq := hg
  refine TL.Mb (TL.tForS (j := (TL.eP2 D.int D.int)) (e := D.int) (vb := v_law_b3 t303 d353) (gb := g_law_b3 t303 d353) (fun s x hg => r_law_b3 t303 d353 s x hg) (ups d353.toNat) s349 hq) ?_
  rfl
def v_law_b5  (d397 : (Int × Int)) : Int :=
  (d397.2 * (d397.1 + (1 : Int)))
def g_law_b5  (d397 : (Int × Int)) : Prop :=
  TL.mulG d397.2 (d397.1 + (1 : Int))
theorem r_law_b5  (d397 : (Int × Int)) (hg : g_law_b5  d397) : n_law_b5  ((TL.eP2 D.int D.int) d397) = .ok (D.int (v_law_b5  d397)) := by
  unfold g_law_b5 at hg
  unfold n_law_b5 v_law_b5
  refine TL.Mb rfl ?_
  refine TL.Mb (TL.t_add _ _) ?_
  have hq := hg
  refine TL.Mb (@TL.t_mul d397.2 (d397.1 + (1 : Int)) hq) ?_
  rfl
def v_law_b6 (script1 : (List Int)) (s248 : Unit) (d264 : Int) : (Fw Unit Bool) :=
  TL.letV (H.v_law_take (H.v_law_box script1 d264) (8 : Int)) fun r267 =>
  TL.letV (((1 : Int) + r267.1)) fun t269 =>
  TL.letV ((ups t269.toNat)) fun l272 =>
  TL.letV (TL.mapIOV (v_law_b1) l272 r267.2) fun l290 =>
  TL.letV ((List.map (v_law_b2 l290) l290.1)) fun t303 =>
  TL.letV (v_mean_cost t303) fun t305 =>
  TL.letV (v_best_cost t303) fun t307 =>
  TL.letV (H.v_law_times t307 (H.v_law_less ((2 : Int), (1 : Int)) (H.v_law_part (2 : Int) (t269 + (1 : Int))))) fun t315 =>
  cond ((decide ((t305.1 * t307.2) < (t307.1 * t305.2))) || (decide ((t315.1 * t305.2) < (t305.1 * t315.2))))
  ((.rt false))
  (cond (!true)
  ((.rt false))
  (TL.letV ((TL.enV 0 ((sortI l290.1).reverse))) fun l395 =>
  cond (!true)
  ((.rt false))
  (TL.letV ((TL.repV [(H.v_law_part (1 : Int) t269)] t269)) fun t422 =>
  cond ((!true) || (!true))
  ((.rt false))
  ((.nx ())))))
def g_law_b6 (script1 : (List Int)) (s248 : Unit) (d264 : Int) : Prop :=
  H.g_law_box script1 d264 ∧ H.g_law_take (H.v_law_box script1 d264) (8 : Int) ∧ (∀ r267, r267 = (H.v_law_take (H.v_law_box script1 d264) (8 : Int)) → ∀ t269, t269 = ((1 : Int) + r267.1) → TL.rgG t269 ∧ (∀ l272, l272 = (ups t269.toNat) → TL.lenG l272.length ∧ TL.gMapIO (g_law_b1) (v_law_b1) l272 r267.2 ∧ (∀ l290, l290 = (TL.mapIOV (v_law_b1) l272 r267.2) → TL.lenG l290.1.length ∧ (∀ x ∈ l290.1, g_law_b2 l290 x) ∧ ∀ t303, t303 = (List.map (v_law_b2 l290) l290.1) → g_mean_cost t303 ∧ (∀ t305, t305 = (v_mean_cost t303) → g_best_cost t303 ∧ (∀ t307, t307 = (v_best_cost t303) → H.g_law_part (2 : Int) (t269 + (1 : Int)) ∧ H.g_law_less ((2 : Int), (1 : Int)) (H.v_law_part (2 : Int) (t269 + (1 : Int))) ∧ H.g_law_times t307 (H.v_law_less ((2 : Int), (1 : Int)) (H.v_law_part (2 : Int) (t269 + (1 : Int)))) ∧ (∀ t315, t315 = (H.v_law_times t307 (H.v_law_less ((2 : Int), (1 : Int)) (H.v_law_part (2 : Int) (t269 + (1 : Int))))) → TL.mulG t305.1 t307.2 ∧ TL.mulG t307.1 t305.2 ∧ ((decide ((t305.1 * t307.2) < (t307.1 * t305.2))) = false → TL.mulG t305.1 t315.2 ∧ TL.mulG t315.1 t305.2) ∧ (((decide ((t305.1 * t307.2) < (t307.1 * t305.2))) || (decide ((t315.1 * t305.2) < (t305.1 * t315.2)))) = false → TL.rgG t269 ∧ TL.gFor (g_law_b4 t303) (v_law_b4 t303) (ups t269.toNat) ((1 : Int), (1 : Int)) ∧ t305 = (List.foldl (v_law_b4 t303) ((1 : Int), (1 : Int)) (ups t269.toNat)) ∧ ((!true) = false → ∀ l395, l395 = (TL.enV 0 ((sortI l290.1).reverse)) → TL.lenG l395.length ∧ (∀ x ∈ l395, g_law_b5 x) ∧ H.g_law_part ((List.map (v_law_b5) l395).sum) l290.1.sum ∧ t307 = (H.v_law_part ((List.map (v_law_b5) l395).sum) l290.1.sum) ∧ ((!true) = false → H.g_law_part (1 : Int) t269 ∧ TL.repTA [(H.v_law_part (1 : Int) t269)].length t269 ∧ (∀ t422, t422 = (TL.repV [(H.v_law_part (1 : Int) t269)] t269) → g_mean_cost t422 ∧ H.g_law_part (t269 + (1 : Int)) (2 : Int) ∧ (v_mean_cost t422) = (H.v_law_part (t269 + (1 : Int)) (2 : Int)) ∧ ((!true) = false → g_best_cost t422 ∧ H.g_law_part (t269 + (1 : Int)) (2 : Int) ∧ (v_best_cost t422) = (H.v_law_part (t269 + (1 : Int)) (2 : Int)))))))))))))
theorem r_law_b6 (script1 : (List Int)) (s248 : Unit) (d264 : Int) (hg : g_law_b6 script1 s248 d264) : n_law_b6 (TL.eZ script1) (TL.jU s248) (D.int d264) = .ok ((TL.jF TL.jU D.bl) (v_law_b6 script1 s248 d264)) := by
  unfold g_law_b6 at hg
  unfold n_law_b6 v_law_b6
  obtain ⟨hq, hg⟩ := hg
  refine TL.Mb (H.r_law_box script1 d264 hq) ?_
  obtain ⟨hq, hg⟩ := hg
  refine TL.Ml (e := (TL.jP D.int (TL.eL D.int))) (c := (TL.jF TL.jU D.bl)) (x := H.v_law_take (H.v_law_box script1 d264) (8 : Int)) (H.r_law_take (H.v_law_box script1 d264) (8 : Int) hq) ?_
  intro r267 hc10
  replace hg := hg r267 hc10
  refine TL.Ml (e := D.int) (c := (TL.jF TL.jU D.bl)) (x := ((1 : Int) + r267.1)) (TL.t_add _ _) ?_
  intro t269 hc11
  replace hg := hg t269 hc11
  obtain ⟨hq, hg⟩ := hg
  refine TL.Ml (e := (List.map D.int)) (c := (TL.jF TL.jU D.bl)) (x := (ups t269.toNat)) (@TL.t_rg1 _ hq) ?_
  intro l272 hc12
  replace hg := hg l272 hc12
  obtain ⟨hq, hg⟩ := hg
  refine TL.Mb (TL.t_ln (e := D.int) (l := l272) hq) ?_
  obtain ⟨hq, hg⟩ := hg
  refine TL.Ml (e := (TL.jP (List.map D.int) (TL.eL D.int))) (c := (TL.jF TL.jU D.bl)) (x := TL.mapIOV (v_law_b1) l272 r267.2) (TL.tMapIO (j := (TL.eL D.int)) (e := D.int) (c := D.int) (vb := v_law_b1) (gb := g_law_b1) (fun s x hg => r_law_b1 s x hg) l272 r267.2 hq) ?_
  intro l290 hc13
  replace hg := hg l290 hc13
  refine TL.Mb (TL.t_seqL D.int l290.1) ?_
  obtain ⟨hq, hg⟩ := hg
  refine TL.Mb (TL.t_ln (e := D.int) (l := l290.1) hq) ?_
  obtain ⟨hq, hg⟩ := hg
  refine TL.Mb (TL.tMap (e := D.int) (c := (TL.eP2 D.int D.int)) (vb := v_law_b2 l290) (gb := g_law_b2 l290) (fun x hg => r_law_b2 l290 x hg) l290.1 hq) ?_
  refine TL.Ml (e := (TL.eT (TL.eP2 D.int D.int))) (c := (TL.jF TL.jU D.bl)) (x := (List.map (v_law_b2 l290) l290.1)) (TL.t_tupL (TL.eP2 D.int D.int) (List.map (v_law_b2 l290) l290.1)) ?_
  intro t303 hc14
  replace hg := hg t303 hc14
  obtain ⟨hq, hg⟩ := hg
  refine TL.Ml (e := (TL.eP2 D.int D.int)) (c := (TL.jF TL.jU D.bl)) (x := v_mean_cost t303) (r_mean_cost t303 hq) ?_
  intro t305 hc15
  replace hg := hg t305 hc15
  obtain ⟨hq, hg⟩ := hg
  refine TL.Ml (e := (TL.eP2 D.int D.int)) (c := (TL.jF TL.jU D.bl)) (x := v_best_cost t303) (r_best_cost t303 hq) ?_
  intro t307 hc16
  replace hg := hg t307 hc16
  refine TL.Mb (TL.t_add _ _) ?_
  obtain ⟨hq, hg⟩ := hg
  refine TL.Mb (H.r_law_part (2 : Int) (t269 + (1 : Int)) hq) ?_
  obtain ⟨hq, hg⟩ := hg
  refine TL.Mb (H.r_law_less ((2 : Int), (1 : Int)) (H.v_law_part (2 : Int) (t269 + (1 : Int))) hq) ?_
  obtain ⟨hq, hg⟩ := hg
  refine TL.Ml (e := (TL.eP2 D.int D.int)) (c := (TL.jF TL.jU D.bl)) (x := H.v_law_times t307 (H.v_law_less ((2 : Int), (1 : Int)) (H.v_law_part (2 : Int) (t269 + (1 : Int))))) (H.r_law_times t307 (H.v_law_less ((2 : Int), (1 : Int)) (H.v_law_part (2 : Int) (t269 + (1 : Int)))) hq) ?_
  intro t315 hc17
  replace hg := hg t315 hc17
  refine TL.Mb (TL.t_ixP20 D.int D.int t305) ?_
  refine TL.Mb (TL.t_ixP21 D.int D.int t307) ?_
  obtain ⟨hq, hg⟩ := hg
  refine TL.Mb (@TL.t_mul t305.1 t307.2 hq) ?_
  refine TL.Mb (TL.t_ixP20 D.int D.int t307) ?_
  refine TL.Mb (TL.t_ixP21 D.int D.int t305) ?_
  obtain ⟨hq, hg⟩ := hg
  refine TL.Mb (@TL.t_mul t307.1 t305.2 hq) ?_
  refine TL.Mb (TL.t_lt _ _) ?_
  obtain ⟨hq, hg⟩ := hg
  refine TL.Mb (TL.Mor (c := (decide ((t305.1 * t307.2) < (t307.1 * t305.2)))) (b := (decide ((t315.1 * t305.2) < (t305.1 * t315.2)))) (fun hc1 => by
    have hg := hq hc1
    show _ = M.ok (TL.eBl _)
    refine TL.Mb (TL.t_ixP20 D.int D.int t305) ?_
    refine TL.Mb (TL.t_ixP21 D.int D.int t315) ?_
    obtain ⟨hq, hg⟩ := hg
    refine TL.Mb (@TL.t_mul t305.1 t315.2 hq) ?_
    refine TL.Mb (TL.t_ixP20 D.int D.int t315) ?_
    refine TL.Mb (TL.t_ixP21 D.int D.int t305) ?_
    have hq := hg
    refine TL.Mb (@TL.t_mul t315.1 t305.2 hq) ?_
    refine TL.Mb (TL.t_gt _ _) ?_
    rfl)) ?_
  refine TL.Mc (e := (TL.jF TL.jU D.bl)) ?_ ?_
  · intro hc2
    rfl
  · intro hc2
    replace hg := hg hc2
    obtain ⟨hq, hg⟩ := hg
    refine TL.Mb (@TL.t_rg1 _ hq) ?_
    obtain ⟨hq, hg⟩ := hg
    refine TL.Mb (TL.tForS (j := (TL.eP2 D.int D.int)) (e := D.int) (vb := v_law_b4 t303) (gb := g_law_b4 t303) (fun s x hg => r_law_b4 t303 s x hg) (ups t269.toNat) ((1 : Int), (1 : Int)) hq) ?_
    obtain ⟨hq, hg⟩ := hg
    refine TL.Mb (TL.t_same (TL.smP2 TL.smI TL.smI) (by decide) (a := t305) (b := (List.foldl (v_law_b4 t303) ((1 : Int), (1 : Int)) (ups t269.toNat))) hq) ?_
    refine TL.Mb (TL.t_asB _) ?_
    refine TL.Mb (TL.t_not _) ?_
    refine TL.Mc (e := (TL.jF TL.jU D.bl)) ?_ ?_
    · intro hc3
      rfl
    · intro hc3
      replace hg := hg hc3
      refine TL.Mb (TL.t_sortR l290.1) ?_
      refine TL.Ml (e := (List.map (TL.eP2 D.int D.int))) (c := (TL.jF TL.jU D.bl)) (x := (TL.enV 0 ((sortI l290.1).reverse))) (TL.t_enL D.int ((sortI l290.1).reverse)) ?_
      intro l395 hc18
      replace hg := hg l395 hc18
      obtain ⟨hq, hg⟩ := hg
      refine TL.Mb (TL.t_ln (e := (TL.eP2 D.int D.int)) (l := l395) hq) ?_
      obtain ⟨hq, hg⟩ := hg
      refine TL.Mb (TL.tMap (e := (TL.eP2 D.int D.int)) (c := D.int) (vb := v_law_b5) (gb := g_law_b5) (fun x hg => r_law_b5 x hg) l395 hq) ?_
      refine TL.Mb (TL.t_sumL (List.map (v_law_b5) l395)) ?_
      refine TL.Mb (TL.t_sumL l290.1) ?_
      obtain ⟨hq, hg⟩ := hg
      refine TL.Mb (H.r_law_part ((List.map (v_law_b5) l395).sum) l290.1.sum hq) ?_
      obtain ⟨hq, hg⟩ := hg
      refine TL.Mb (TL.t_same (TL.smP2 TL.smI TL.smI) (by decide) (a := t307) (b := (H.v_law_part ((List.map (v_law_b5) l395).sum) l290.1.sum)) hq) ?_
      refine TL.Mb (TL.t_asB _) ?_
      refine TL.Mb (TL.t_not _) ?_
      refine TL.Mc (e := (TL.jF TL.jU D.bl)) ?_ ?_
      · intro hc4
        rfl
      · intro hc4
        replace hg := hg hc4
        obtain ⟨hq, hg⟩ := hg
        refine TL.Mb (H.r_law_part (1 : Int) t269 hq) ?_
        obtain ⟨hq, hg⟩ := hg
        refine TL.Ml (e := (TL.eT (TL.eP2 D.int D.int))) (c := (TL.jF TL.jU D.bl)) (x := (TL.repV [(H.v_law_part (1 : Int) t269)] t269)) (TL.t_repTA (e := (TL.eP2 D.int D.int)) (l := [(H.v_law_part (1 : Int) t269)]) hq) ?_
        intro t422 hc19
        replace hg := hg t422 hc19
        obtain ⟨hq, hg⟩ := hg
        refine TL.Mb (r_mean_cost t422 hq) ?_
        refine TL.Mb (TL.t_add _ _) ?_
        obtain ⟨hq, hg⟩ := hg
        refine TL.Mb (H.r_law_part (t269 + (1 : Int)) (2 : Int) hq) ?_
        obtain ⟨hq, hg⟩ := hg
        refine TL.Mb (TL.t_same (TL.smP2 TL.smI TL.smI) (by decide) (a := (v_mean_cost t422)) (b := (H.v_law_part (t269 + (1 : Int)) (2 : Int))) hq) ?_
        refine TL.Mb (TL.t_asB _) ?_
        refine TL.Mb (TL.t_not _) ?_
        have hq := hg
        refine TL.Mb (TL.Mor (c := (!true)) (b := (!true)) (fun hc5 => by
    have hg := hq hc5
    show _ = M.ok (TL.eBl _)
    obtain ⟨hq, hg⟩ := hg
    refine TL.Mb (r_best_cost t422 hq) ?_
    refine TL.Mb (TL.t_add _ _) ?_
    obtain ⟨hq, hg⟩ := hg
    refine TL.Mb (H.r_law_part (t269 + (1 : Int)) (2 : Int) hq) ?_
    have hq := hg
    refine TL.Mb (TL.t_same (TL.smP2 TL.smI TL.smI) (by decide) (a := (v_best_cost t422)) (b := (H.v_law_part (t269 + (1 : Int)) (2 : Int))) hq) ?_
    refine TL.Mb (TL.t_asB _) ?_
    refine TL.Mb (TL.t_not _) ?_
    rfl)) ?_
        refine TL.Mc (e := (TL.jF TL.jU D.bl)) ?_ ?_
        · intro hc6
          rfl
        · intro hc6
          rfl
def v_law (script1 : (List Int)) : Bool :=
  TL.sumC (TL.forNV (v_law_b6 script1) (ups (max (4 : Int) (min (script1.length : Int) (9 : Int))).toNat) ())
  (fun s451 => true)
  (fun w => w)
def g_law (script1 : (List Int)) : Prop :=
  TL.rgG (max (4 : Int) (min (script1.length : Int) (9 : Int))) ∧ TL.gForN (g_law_b6 script1) (v_law_b6 script1) (ups (max (4 : Int) (min (script1.length : Int) (9 : Int))).toNat) ()
theorem r_law (script1 : (List Int)) (hg : g_law script1) : n_law (TL.eZ script1) = .ok (D.bl (v_law script1)) := by
  unfold g_law at hg
  unfold n_law v_law
  refine TL.Mb (TL.t_lenZ script1) ?_
  refine TL.Mb (TL.t_min2 _ _) ?_
  refine TL.Mb (TL.t_max2 _ _) ?_
  obtain ⟨hq, hg⟩ := hg
  refine TL.Mb (@TL.t_rg1 _ hq) ?_
  have hq := hg
  refine TL.MbN (c := D.bl) (TL.tForN (j := TL.jU) (k := D.bl) (e := D.int) (vb := v_law_b6 script1) (gb := g_law_b6 script1) (fun s x hg => r_law_b6 script1 s x hg) (ups (max (4 : Int) (min (script1.length : Int) (9 : Int))).toNat) () hq) ?_ ?_
  · intro s451 hc7
    rfl
  · intro w _
    rfl
end G_k57_the_bound_of_means
namespace H
set_option autoImplicit false
open PySem PySem.Spec PyProof.Rows L2 U
end H
namespace H
set_option autoImplicit false
open PySem L2 U
section
variable {many : Int} {rows : List (List Int)}
end
end H
namespace H
set_option autoImplicit false
open PySem PySem.Spec PyProof.Rows L2 U
end H
namespace H
set_option autoImplicit false
open PySem L2 U
section
variable {many : Int} {rows : List (List Int)}
end
end H
namespace H
set_option autoImplicit false
open PySem L2 U
section
variable {many : Int} {rows : List (List Int)}
end
end H
namespace H
set_option autoImplicit false
open PySem L2 U
theorem z_box (ns : List Int) {k : Int} (h0 : 0 ≤ k) (h1 : k < 1000) : g_law_box ns k ∧ TL.Bo (v_law_box ns k) := by
  obtain ⟨es, e, hb⟩ := nBox ns h0 h1
  obtain ⟨b, rfl, hb⟩ := TL.BxI_Bo hb
  have := y_law_box ns k (y := b) e
  exact ⟨this.1, by rw [this.2]; exact hb⟩
theorem z_take {b : List Int} (hb : TL.Bo b) {many : Int} (h0 : 0 < many) (h1 : many < 2 ^ 62) : g_law_take b many ∧ (0 ≤ (v_law_take b many).1 ∧ (v_law_take b many).1 < many) ∧ TL.Bo (v_law_take b many).2 := by
  obtain ⟨v, es, e, hv, hb'⟩ := nTake hb h0 h1
  obtain ⟨b', rfl, hb'⟩ := TL.BxI_Bo hb'
  have := y_law_take b many (y := (v, b')) e
  exact ⟨this.1, by rw [this.2]; exact hv, by rw [this.2]; exact hb'⟩
theorem pick_of {α : Type} {e : α → D} {b : List Int} (hb : TL.Bo b) {xs : List α} (h0 : xs ≠ []) (h1 : xs.length < 2 ^ 62) : ∃ y : α × List Int, n_law_pick (TL.eL D.int b) (TL.eL e xs) = .ok (TL.jP e (TL.eL D.int) y) ∧ y.1 ∈ xs ∧ TL.Bo y.2 := by
  obtain ⟨v, es, h, hv, hb'⟩ := nPickL hb (xs := xs.map e) (fun k => h0 (List.map_eq_nil_iff.mp k)) (by rw [List.length_map]; exact h1)
  obtain ⟨b', rfl, hb'⟩ := TL.BxI_Bo hb'
  obtain ⟨a, ha, rfl⟩ := List.mem_map.mp hv
  exact ⟨(a, b'), h, ha, hb'⟩
section
variable {many : Int} {rows : List (List Int)}
end
end H
namespace H
set_option autoImplicit false
open PySem L2 U
section
variable {α β : Type}
def sm (l : List α) (f : α → Rat) : Rat := (l.map f).sum
theorem sm_nil (f : α → Rat) : sm [] f = 0 := rfl
theorem sm_cons (a : α) (l : List α) (f : α → Rat) : sm (a :: l) f = f a + sm l f := by unfold sm; rw [List.map_cons, List.sum_cons]
theorem sm_app (l r : List α) (f : α → Rat) : sm (l ++ r) f = sm l f + sm r f := by
  induction l with
  | nil => rw [List.nil_append, sm_nil, Rat.zero_add]
  | cons a l ih => rw [List.cons_append, sm_cons, sm_cons, ih, Rat.add_assoc]
theorem sm_congr {l : List α} {f g : α → Rat} (h : ∀ a ∈ l, f a = g a) : sm l f = sm l g := by
  unfold sm; rw [List.map_congr_left h]
theorem sm_add (l : List α) (f g : α → Rat) : sm l (fun a => f a + g a) = sm l f + sm l g := by
  induction l with
  | nil => rw [sm_nil, sm_nil, sm_nil, Rat.add_zero]
  | cons a l ih => rw [sm_cons, sm_cons, sm_cons, ih]; grind
theorem sm_mul (l : List α) (c : Rat) (f : α → Rat) : sm l (fun a => c * f a) = c * sm l f := by
  induction l with
  | nil => rw [sm_nil, sm_nil, Rat.mul_zero]
  | cons a l ih => rw [sm_cons, sm_cons, ih]; grind
theorem sm_mulR (l : List α) (c : Rat) (f : α → Rat) : sm l (fun a => f a * c) = sm l f * c := by
  rw [Rat.mul_comm, ← sm_mul]; exact sm_congr fun a _ => Rat.mul_comm _ _
theorem sm_zero (l : List α) : sm l (fun _ => 0) = 0 := by
  induction l with
  | nil => rfl
  | cons a l ih => rw [sm_cons, ih, Rat.add_zero]
theorem sm_nn {l : List α} {f : α → Rat} (h : ∀ a ∈ l, 0 ≤ f a) : 0 ≤ sm l f := rat_sum_nn fun x hx => by
  obtain ⟨a, ha, rfl⟩ := List.mem_map.mp hx; exact h a ha
theorem sm_le {l : List α} {f g : α → Rat} (h : ∀ a ∈ l, f a ≤ g a) : sm l f ≤ sm l g := by
  induction l with
  | nil => exact Rat.le_refl
  | cons a l ih =>
    rw [sm_cons, sm_cons]
    have h1 := h a List.mem_cons_self
    have h2 := ih fun b hb => h b (List.mem_cons_of_mem _ hb)
    grind
theorem sm_mem {l : List α} {f : α → Rat} (h : ∀ a ∈ l, 0 ≤ f a) {a : α} (ha : a ∈ l) : f a ≤ sm l f := by
  induction l with
  | nil => cases ha
  | cons b l ih =>
    rw [sm_cons]
    have h1 := h b List.mem_cons_self
    have h2 := sm_nn fun c hc => h c (List.mem_cons_of_mem _ hc)
    rcases List.mem_cons.mp ha with rfl | ha
    · grind
    · have := ih (fun c hc => h c (List.mem_cons_of_mem _ hc)) ha
      grind
theorem sm_filter (l : List α) (p : α → Bool) (f : α → Rat) : sm (l.filter p) f = sm l fun a => if p a = true then f a else 0 := by
  induction l with
  | nil => rfl
  | cons a l ih =>
    rw [sm_cons]
    cases h : p a with
    | true => rw [List.filter_cons_of_pos h, sm_cons, ih, if_pos rfl]
    | false => rw [List.filter_cons_of_neg (by rw [h]; exact Bool.false_ne_true), ih, if_neg Bool.false_ne_true, Rat.zero_add]
theorem sm_map (l : List α) (g : α → β) (f : β → Rat) : sm (l.map g) f = sm l fun a => f (g a) := by
  unfold sm; rw [List.map_map]; rfl
theorem sm_perm {l r : List α} (h : List.Perm l r) (f : α → Rat) : sm l f = sm r f := by
  induction h with
  | nil => rfl
  | cons x h ih => rw [sm_cons, sm_cons, ih]
  | swap x y l => rw [sm_cons, sm_cons, sm_cons, sm_cons]; grind
  | trans h1 h2 ih1 ih2 => rw [ih1, ih2]
end
def RunN (n : Nat) (r : List Int) : Prop := ∀ d ∈ r, 0 ≤ d ∧ d < (n : Int)
theorem RunN.nil {n : Nat} : RunN n [] := fun _ h => nomatch h
section
variable {n : Nat} {w : Int → Rat}
variable (hw : ∀ d ∈ ups n, 0 ≤ w d)
include hw
omit hw
end
end H
namespace H
set_option autoImplicit false
open PySem L2 U
theorem nodup_le {α : Type} [DecidableEq α] : ∀ {l m : List α}, l.Nodup → (∀ x ∈ l, x ∈ m) → l.length ≤ m.length
  | [], m, _, _ => Nat.zero_le _
  | x :: l, m, hn, h => by
    rw [List.nodup_cons] at hn
    have hx := h x List.mem_cons_self
    have := nodup_le (l := l) (m := m.erase x) hn.2 fun y hy => (List.mem_erase_of_ne fun e => hn.1 (by rw [← e]; exact hy)).mpr (h y (List.mem_cons_of_mem _ hy))
    rw [List.length_erase_of_mem hx] at this
    have hp : 0 < m.length := List.length_pos_of_mem hx
    rw [List.length_cons]; omega
section
variable {κ : Type} [DecidableEq κ]
def Ds (F : List (κ × Rat)) (φ : κ → Rat) : Rat := sm F fun p => p.2 * φ p.1
def accR (F : List (κ × Rat)) (k : κ) (v : Rat) : List (κ × Rat) := put F k ((lk F k).getD 0 + v)
theorem Ds_cons (p : κ × Rat) (F : List (κ × Rat)) (φ : κ → Rat) : Ds (p :: F) φ = p.2 * φ p.1 + Ds F φ := sm_cons _ _ _
theorem Ds_put (F : List (κ × Rat)) (k : κ) (q : Rat) (φ : κ → Rat) : Ds (put F k q) φ + (lk F k).getD 0 * φ k = Ds F φ + q * φ k := by
  induction F with
  | nil =>
    show Ds [(k, q)] φ + 0 * φ k = Ds [] φ + q * φ k
    rw [Ds_cons]; grind
  | cons p F ih =>
    unfold put
    by_cases h : p.1 = k
    · rw [if_pos h, Ds_cons, Ds_cons]
      unfold lk
      rw [if_pos h, ← h]
      show q * φ p.1 + Ds F φ + p.2 * φ p.1 = _
      grind
    · rw [if_neg h, Ds_cons, Ds_cons]
      unfold lk
      rw [if_neg h]
      grind
theorem Ds_acc (F : List (κ × Rat)) (k : κ) (v : Rat) (φ : κ → Rat) : Ds (accR F k v) φ = Ds F φ + v * φ k := by
  have := Ds_put F k ((lk F k).getD 0 + v) φ
  unfold accR
  grind
structure DOk (U : List κ) (N K : Nat) (F : List (κ × Rat)) : Prop where
  nod : (F.map (·.1)).Nodup
  key : ∀ p ∈ F, p.1 ∈ U
  val : ∀ p ∈ F, 0 ≤ p.2 ∧ Dv N p.2
  tot : Ds F (fun _ => 1) ≤ (K : Rat)
section
variable {U : List κ} {N K : Nat} {F : List (κ × Rat)}
theorem DOk.nil : DOk U N K ([] : List (κ × Rat)) := ⟨List.nodup_nil, fun _ h => (nomatch h), fun _ h => (nomatch h), by show (0 : Rat) ≤ _; exact Rat.natCast_nonneg⟩
theorem DOk.len (h : DOk U N K F) : F.length ≤ U.length := by
  have := nodup_le h.nod fun x hx => by
    obtain ⟨p, hp, rfl⟩ := List.mem_map.mp hx
    exact h.key p hp
  rw [List.length_map] at this
  exact this
theorem Ds_one (F : List (κ × Rat)) : Ds F (fun _ => 1) = sm F (·.2) := sm_congr fun p _ => Rat.mul_one _
theorem DOk.le (h : DOk U N K F) {p : κ × Rat} (hp : p ∈ F) : p.2 ≤ Ds F (fun _ => 1) := by
  rw [Ds_one]; exact sm_mem (f := fun p : κ × Rat => p.2) (fun q hq => (h.val q hq).1) hp
theorem DOk.get (h : DOk U N K F) (k : κ) : 0 ≤ (lk F k).getD 0 ∧ Dv N ((lk F k).getD 0) ∧ (lk F k).getD 0 ≤ Ds F (fun _ => 1) := by
  cases q : lk F k with
  | none => exact ⟨Rat.le_refl, Dv.zero N, by
      rw [Ds_one]; exact sm_nn fun p hp => (h.val p hp).1⟩
  | some v =>
    have := lk_mem q
    exact ⟨(h.val _ this).1, (h.val _ this).2, h.le this⟩
theorem DOk.acc (h : DOk U N K F) {k : κ} {v : Rat} (hk : k ∈ U) (h0 : 0 ≤ v) (hv : Dv N v) (ht : Ds F (fun _ => 1) + v ≤ (K : Rat)) : DOk U N K (accR F k v) := by
  have hg := h.get k
  refine ⟨put_nodup h.nod _ _, fun p hp => ?_, fun p hp => ?_, by rw [Ds_acc, Rat.mul_one]; exact ht⟩
  · have : p.1 ∈ (accR F k v).map (·.1) := List.mem_map_of_mem hp
    rcases (put_keys F _ _ _).mp this with q | q
    · obtain ⟨p', hp', e⟩ := List.mem_map.mp q
      rw [← e]; exact h.key p' hp'
    · rw [q]; exact hk
  · have := lk_of_mem (put_nodup h.nod k ((lk F k).getD 0 + v)) hp
    rw [lk_put] at this
    split at this
    · injection this with this
      rw [← this]
      exact ⟨Rat.add_nonneg hg.1 h0, hg.2.1.add hv⟩
    · exact h.val _ (lk_mem this)
end
end
end H
namespace H
set_option autoImplicit false
open PySem L2 U
theorem ups_map_get {α : Type} (l : List α) (z : α) : (ups l.length).map (fun d => l.getD d.toNat z) = l := by
  apply List.ext_getElem
  · simp [ups]
  · intro i h1 h2
    simp [ups, List.getD_eq_getElem?_getD, h2]
theorem ixV_map {α β : Type} [Inhabited α] [Inhabited β] (f : α → β) (l : List α) {d : Int} (hd : d ∈ ups l.length) : TL.ixV (l.map f) d = f (l.getD d.toNat default) := by
  have := ups_mem hd
  have h2 : d.toNat < l.length := by omega
  rw [TL.ixV_nn _ this.1, List.getD_eq_getElem?_getD, List.getD_eq_getElem?_getD, List.getElem?_map, List.getElem?_eq_getElem h2]; rfl
theorem inR_ups {n : Nat} {d : Int} (hd : d ∈ ups n) : TL.inR n d := TL.inR_nn (ups_mem hd).1 (ups_mem hd).2
theorem rgG_s {b : Int} (h0 : 0 ≤ b) (h : b < 4611686018427387904) : TL.rgG b := by unfold TL.rgG; omega
structure Wt (n C : Nat) (W : List Rat) : Prop where
  len : W.length = n
  nn : ∀ x ∈ W, 0 ≤ x ∧ Dv C x
  sum : W.sum = 1
  c0 : C ≠ 0
def wf (W : List Rat) (d : Int) : Rat := W.getD d.toNat 0
def comD (W : List Rat) : List Int := (ups W.length).filter fun d => decide (wf W d ≠ 0)
section
variable {n C : Nat} {W : List Rat}
theorem wf_ix {d : Int} (hd : d ∈ ups W.length) : TL.ixV (W.map fr) d = fr (wf W d) := ixV_map fr W hd
theorem wf_mem {d : Int} (hd : d ∈ ups W.length) : wf W d ∈ W := by
  have := ups_mem hd
  have h2 : d.toNat < W.length := by omega
  unfold wf
  rw [List.getD_eq_getElem?_getD, List.getElem?_eq_getElem h2]
  exact List.getElem_mem h2
theorem Wt.wnn (h : Wt n C W) {d : Int} (hd : d ∈ ups n) : 0 ≤ wf W d := (h.nn _ (wf_mem (by rw [h.len]; exact hd))).1
theorem Wt.wdv (h : Wt n C W) {d : Int} (hd : d ∈ ups n) : Dv C (wf W d) := (h.nn _ (wf_mem (by rw [h.len]; exact hd))).2
theorem Wt.one (h : Wt n C W) : sm (ups n) (wf W) = 1 := by
  rw [← h.sum, ← h.len]
  unfold sm
  congr 1
  exact ups_map_get W 0
theorem Wt.le1 (h : Wt n C W) {d : Int} (hd : d ∈ ups n) : wf W d ≤ 1 := by
  rw [← h.one]; exact sm_mem (fun e he => h.wnn he) hd
theorem sm_sub {l : List Int} (hn : l.Nodup) (hs : ∀ d ∈ l, d ∈ ups n) (f : Int → Rat) : sm l f = sm (ups n) fun d => if d ∈ l then f d else 0 := by
  have hp : List.Perm l ((ups n).filter fun d => decide (d ∈ l)) := (List.perm_ext_iff_of_nodup hn ((ups_nodup n).filter _)).mpr fun d => by
    rw [List.mem_filter, decide_eq_true_eq]
    exact ⟨fun h => ⟨hs d h, h⟩, fun h => h.2⟩
  rw [sm_perm hp, sm_filter]
  exact sm_congr fun d _ => by simp
theorem Wt.sub_le (h : Wt n C W) {l : List Int} (hn : l.Nodup) (hs : ∀ d ∈ l, d ∈ ups n) : sm l (wf W) ≤ 1 := by
  rw [sm_sub hn hs, ← h.one]
  refine sm_le fun d hd => ?_
  split
  · exact Rat.le_refl
  · exact h.wnn hd
end
end H
namespace H
set_option autoImplicit false
open PySem L2 U
theorem DOk.up {κ : Type} [DecidableEq κ] {U : List κ} {N K : Nat} {F : List (κ × Rat)} (h : DOk U N K F) (M : Nat) : DOk U (N * M) K F := ⟨h.nod, h.key, fun p hp => ⟨(h.val p hp).1, (h.val p hp).2.lift M⟩, h.tot⟩
theorem Sm1 {N : Nat} {q : Rat} (h0 : N ≠ 0) (h : Dv N q) (hk : 0 ≤ q ∧ q ≤ 1) (hN : N < 2 ^ 4000) : Sm q := Sm_of (K := 1) h0 h ⟨by have := hk.1; grind, hk.2⟩ (by omega) hN
section
variable {κ : Type} [DecidableEq κ] {nx : κ → Int → κ} {k0 : κ} {U : List κ} {n C : Nat} {W : List Rat} {Dl : List Int}
structure Dd (n : Nat) (W : List Rat) (Dl : List Int) : Prop where
  mem : ∀ d ∈ Dl, d ∈ ups n
  sum : ∀ f : Int → Rat, sm Dl (fun d => wf W d * f d) = sm (ups n) fun d => wf W d * f d
theorem Dd.all : Dd n W (ups n) := ⟨fun _ h => h, fun _ => rfl⟩
section
variable (hW : Wt n C W) (hD : Dd n W Dl) (hU : ∀ k ∈ U, ∀ d ∈ ups n, nx k d ∈ U)
include hW hD hU
end
end
end H
namespace H
set_option autoImplicit false
open PySem L2 U
section
variable {many : Int} {rows : List (List Int)} {C : Nat} {W : List Rat}
theorem ups_len' (n : Nat) : (ups n).length = n := by unfold ups; simp
end
end H
namespace H
set_option autoImplicit false
open PySem L2 U
section
variable {n C : Nat} {W : List Rat} {Dl : List Int}
end
section
variable {many : Int} {rows : List (List Int)} {C : Nat} {W : List Rat}
end
end H
namespace H
set_option autoImplicit false
open PySem L2 U
theorem top_ok {gb : Unit → Int → Prop} {vb : Unit → Int → Fw Unit Bool} (ns : List Int) (c1 c2 : Int) (h1 : 0 ≤ c1 ∧ c1 ≤ 500) (h2 : 0 ≤ c2 ∧ c2 ≤ 500) (h : ∀ k : Int, 0 ≤ k → k < 1000 → gb () k ∧ vb () k = .nx ()) :
    (TL.rgG (max c1 (min (ns.length : Int) c2)) ∧ TL.gForN gb vb (ups (max c1 (min (ns.length : Int) c2)).toNat) ()) ∧ TL.forNV vb (ups (max c1 (min (ns.length : Int) c2)).toNat) () = .inl () := by
  have hm : 0 ≤ max c1 (min (ns.length : Int) c2) ∧ max c1 (min (ns.length : Int) c2) ≤ 500 := by omega
  generalize max c1 (min (ns.length : Int) c2) = m at hm
  have k := TL.forNV_inv (gb := gb) (vb := vb) (fun _ => True) (l := ups m.toNat) (s := ()) (fun s x hx _ => by
    have := ups_mem hx
    obtain ⟨g, v⟩ := h x this.1 (by omega)
    exact ⟨g, (), v, trivial⟩) trivial
  obtain ⟨g, s, e, _⟩ := k
  exact ⟨⟨rgG_s hm.1 (by omega), g⟩, e⟩
theorem sum_ints (l : List Int) : ((l.sum : Int) : Rat) = (l.map fun z : Int => (z : Rat)).sum := by
  induction l with
  | nil => rfl
  | cons z l ih => rw [List.sum_cons, List.map_cons, List.sum_cons, ← ih]; push_cast; rfl
theorem share_wt {l : List Int} {B : Nat} (h0 : ∀ z ∈ l, 0 ≤ z) (hs : 0 < l.sum) (hB : l.sum ≤ (B : Int)) : Wt l.length l.sum.toNat (l.map fun z => Rat.divInt z l.sum) ∧ l.sum.toNat ≤ B := by
  obtain ⟨S, hS⟩ := Int.eq_ofNat_of_zero_le (Int.le_of_lt hs)
  have hS0 : S ≠ 0 := by omega
  rw [hS]
  refine ⟨⟨by rw [List.length_map], fun x hx => ?_, ?_, by simpa using hS0⟩, by simp; omega⟩
  · obtain ⟨z, hz, rfl⟩ := List.mem_map.mp hx
    exact ⟨Rat.divInt_nonneg (h0 z hz) (by omega), by
      have := Dv.frac z hS0
      simpa using this⟩
  · have hSr : (S : Rat) ≠ 0 := by intro e; exact hS0 (by exact_mod_cast e)
    have e1 : (l.map fun z => Rat.divInt z (S : Int)) = l.map fun z : Int => (z : Rat) * ((S : Rat)⁻¹) := List.map_congr_left fun z _ => by
      rw [Rat.divInt_eq_div, Rat.div_def]; rfl
    have e2 := sm_mulR l ((S : Rat)⁻¹) fun z : Int => (z : Rat)
    unfold sm at e2
    rw [e1, e2, ← sum_ints, hS]
    show ((S : Int) : Rat) * _ = 1
    exact Rat.mul_inv_cancel _ hSr
section
variable {many : Int} {rows : List (List Int)} {C : Nat} {W : List Rat}
end
end H
namespace H
set_option autoImplicit false
open PySem L2 U
structure AOk (m N K : Nat) (f : Int → Rat) : Prop where
  val : ∀ b ∈ ups m, 0 ≤ f b ∧ Dv N (f b)
  tot : sm (ups m) f ≤ (K : Rat)
section
variable {m N K : Nat} {f : Int → Rat}
theorem AOk.zero : AOk m N K fun _ => 0 := ⟨fun b _ => ⟨Rat.le_refl, Dv.zero N⟩, by rw [sm_zero]; exact Rat.natCast_nonneg⟩
theorem AOk.le (h : AOk m N K f) {b : Int} (hb : b ∈ ups m) : f b ≤ (K : Rat) := Rat.le_trans (sm_mem (fun c hc => (h.val c hc).1) hb) h.tot
end
end H
namespace H
set_option autoImplicit false
open PySem L2 U
section
variable {many : Int} {rows : List (List Int)} {C : Nat} {W : List Rat}
end
end H
namespace H
set_option autoImplicit false
open PySem L2 U
section
variable {m N : Nat} {f g : Int → Rat}
theorem two_sm : Sm 2 := ⟨by decide +kernel, by decide +kernel⟩
end
section
variable {many : Int} {rows : List (List Int)} {C : Nat} {W : List Rat}
end
end H
namespace H
set_option autoImplicit false
open PySem L2 U
theorem sum_rg (l : List Int) (a b : Int) (h : ∀ z ∈ l, a ≤ z ∧ z ≤ b) : a * l.length ≤ l.sum ∧ l.sum ≤ b * l.length := by
  induction l with
  | nil => simp
  | cons x l ih =>
    have h1 := h x List.mem_cons_self
    have h2 := ih fun y hy => h y (List.mem_cons_of_mem _ hy)
    rw [List.sum_cons, List.length_cons]
    push_cast
    rw [Int.mul_add, Int.mul_add]
    omega
end H
namespace H
set_option autoImplicit false
open PySem L2 U
section
variable {many : Int} {rows : List (List Int)} {C : Nat} {W : List Rat}
end
end H
namespace H
set_option autoImplicit false
open PySem L2 U
section
variable {many : Int} {rows : List (List Int)} {C : Nat} {W : List Rat}
def flm (rows : List (List Int)) (k : List Int) : List Int := (ups rows.length).filter fun d => decide (thru k (rows.getD d.toNat []) = k)
def abm (rows : List (List Int)) (W : List Rat) (k : List Int) : Bool := decide (∀ d ∈ comD W, d ∈ flm rows k)
section
variable (S : SysOk many rows) (L : OnlyLast many rows) (hW : Wt rows.length C W) (ψ : List Int → Rat)
include S L hW
end
end
end H
namespace H
set_option autoImplicit false
open PySem L2 U
section
variable {many : Int} {rows : List (List Int)} {C : Nat} {W : List Rat}
def fac : Nat → Nat
  | 0 => 1
  | n + 1 => (n + 1) * fac n
theorem fac_dvd : ∀ (n k : Nat), 0 < k → k ≤ n → k ∣ fac n
  | 0, k, h0, h => by omega
  | n + 1, k, h0, h => by
    by_cases e : k = n + 1
    · rw [e]; exact Nat.dvd_mul_right _ _
    · exact Nat.dvd_trans (fac_dvd n k h0 (by omega)) (Nat.dvd_mul_left _ _)
section
variable (S : SysOk many rows) (L : OnlyLast many rows) (hW : Wt rows.length C W) {b : Int} (hb : b ∈ ups many.toNat)
include S L hW hb
end
end
end H
namespace H
set_option autoImplicit false
open PySem L2 U
section
variable {many : Int} {rows : List (List Int)} {C : Nat} {W : List Rat}
abbrev MR := List (List Int × Rat)
def cT (rows : List (List Int)) (W : List Rat) (p : List Int × Rat) : MR := if abm rows W p.1 = true then [p] else []
end
end H
namespace H
set_option autoImplicit false
open PySem L2 U
section
variable {n C : Nat} {W : List Rat}
structure Pk (n : Nat) (p : List Int) : Prop where
  nd : p.Nodup
  up : ∀ d ∈ p, d ∈ ups n
theorem Pk.nil : Pk n [] := ⟨List.nodup_nil, fun _ h => by cases h⟩
variable (hW : Wt n C W) (hP : ∀ x ∈ W, 0 < x)
include hW hP
end
end H
namespace H
set_option autoImplicit false
open PySem L2 U
section
variable {many : Int} {rows : List (List Int)} {C : Nat} {W : List Rat}
theorem map_nil (S : SysOk many rows) : U.mapOf many rows [] = ups many.toNat := by unfold U.mapOf; exact List.map_id' _
end
end H
namespace H
set_option autoImplicit false
open PySem L2 U
section
variable {many : Int} {rows : List (List Int)} {C : Nat} {W : List Rat}
theorem AOk.up {m N K : Nat} {f : Int → Rat} (h : AOk m N K f) (M : Nat) : AOk m (N * M) K f := ⟨fun b hb => ⟨(h.val b hb).1, (h.val b hb).2.lift M⟩, h.tot⟩
end
end H
namespace H
set_option autoImplicit false
open PySem L2 U
section
variable {n C : Nat} {W : List Rat}
variable (hW : Wt n C W) (hP : ∀ x ∈ W, 0 < x)
include hW hP
end
end H
namespace H
set_option autoImplicit false
open PySem L2 U
end H
namespace H
set_option autoImplicit false
open PySem L2 U
section
variable {n C : Nat} {W : List Rat}
section
variable (hW : Wt n C W) (hP : ∀ x ∈ W, 0 < x)
include hW hP
end
variable (hW : Wt n C W) (hP : ∀ x ∈ W, 0 < x)
include hW hP
end
theorem sum_turns {α : Type} {gb : Int × Int → α → Prop} {vb : Int × Int → α → Int × Int} (f : α → Rat) {N K : Nat} :
    ∀ (l : List α) (q : Rat), (∀ q, ∀ x ∈ l, 0 ≤ q → Dv N q → q + f x ≤ (K : Rat) → gb (fr q) x ∧ vb (fr q) x = fr (q + f x)) → (∀ x ∈ l, 0 ≤ f x ∧ Dv N (f x)) → 0 ≤ q → Dv N q → q + sm l f ≤ (K : Rat) →
      TL.gFor gb vb l (fr q) ∧ l.foldl vb (fr q) = fr (q + sm l f)
  | [], q, _, _, _, _, _ => ⟨trivial, by rw [sm_nil, Rat.add_zero]; rfl⟩
  | x :: l, q, h, hf, nq, dq, ht => by
    rw [sm_cons] at ht
    have n2 : 0 ≤ sm l f := sm_nn fun y hy => (hf y (List.mem_cons_of_mem _ hy)).1
    have fx := hf x List.mem_cons_self
    obtain ⟨g, e⟩ := h q x List.mem_cons_self nq dq (by grind)
    have ih := sum_turns f l (q + f x) (fun q y hy => h q y (List.mem_cons_of_mem _ hy)) (fun y hy => hf y (List.mem_cons_of_mem _ hy)) (Rat.add_nonneg nq fx.1) (dq.add fx.2) (by grind)
    rw [List.foldl_cons, e, sm_cons]
    refine ⟨⟨g, ?_⟩, ?_⟩
    · rw [e]; exact ih.1
    · rw [ih.2]; congr 1; grind
end H
namespace H
set_option autoImplicit false
open PySem L2 U
section
variable {α : Type}
def pairS (f : α → α → Rat) : List α → Rat
  | [] => 0
  | x :: l => (sm l fun y => f x y) + pairS f l
theorem pairS_cons (f : α → α → Rat) (x : α) (l : List α) : pairS f (x :: l) = (sm l fun y => f x y) + pairS f l := rfl
theorem pairS_perm {f : α → α → Rat} (hs : ∀ x y, f x y = f y x) {l r : List α} (h : List.Perm l r) : pairS f l = pairS f r := by
  induction h with
  | nil => rfl
  | cons x p ih => rw [pairS_cons, pairS_cons, sm_perm p, ih]
  | swap x y l =>
    rw [pairS_cons, pairS_cons, pairS_cons, pairS_cons, sm_cons, sm_cons, hs x y]; grind
  | trans _ _ ih1 ih2 => exact ih1.trans ih2
theorem pairS_snoc (f : α → α → Rat) (x : α) : ∀ l : List α, pairS f (l ++ [x]) = pairS f l + sm l fun y => f y x
  | [] => by show (0 : Rat) + 0 = 0 + 0; rfl
  | y :: l => by
    rw [List.cons_append, pairS_cons, pairS_cons, pairS_snoc f x l, sm_app, sm_cons, sm_nil, sm_cons]; grind
theorem pairS_le {f g : α → α → Rat} : ∀ {l : List α}, (∀ x ∈ l, ∀ y ∈ l, f x y ≤ g x y) → pairS f l ≤ pairS g l
  | [], _ => Rat.le_refl
  | x :: l, h => by
    rw [pairS_cons, pairS_cons]
    have h1 : (sm l fun y => f x y) ≤ sm l fun y => g x y := sm_le fun y hy => h x List.mem_cons_self y (List.mem_cons_of_mem _ hy)
    have h2 := pairS_le (f := f) (g := g) (l := l) fun a ha b hb => h a (List.mem_cons_of_mem _ ha) b (List.mem_cons_of_mem _ hb)
    grind
theorem pairS_congr {f g : α → α → Rat} : ∀ {l : List α}, (∀ x ∈ l, ∀ y ∈ l, f x y = g x y) → pairS f l = pairS g l
  | [], _ => rfl
  | x :: l, h => by
    rw [pairS_cons, pairS_cons, pairS_congr (f := f) (g := g) (l := l) fun a ha b hb => h a (List.mem_cons_of_mem _ ha) b (List.mem_cons_of_mem _ hb)]
    rw [sm_congr fun y hy => h x List.mem_cons_self y (List.mem_cons_of_mem _ hy)]
theorem pairS_mul (c : Rat) (f : α → α → Rat) : ∀ l : List α, pairS (fun x y => c * f x y) l = c * pairS f l
  | [] => by show (0 : Rat) = c * 0; grind
  | x :: l => by rw [pairS_cons, pairS_cons, pairS_mul c f l, sm_mul]; grind
end
theorem sm_const (c : Rat) {α : Type} : ∀ l : List α, (sm l fun _ => c) = (l.length : Nat) * c
  | [] => by show (0 : Rat) = ((0 : Nat) : Rat) * c; grind
  | x :: l => by rw [sm_cons, sm_const c l, List.length_cons]; push_cast; grind
theorem pairS_add2 : ∀ l : List Rat, pairS (fun x y => x + y) l = (((l.length : Nat) : Rat) - 1) * l.sum
  | [] => by show (0 : Rat) = _ * 0; grind
  | x :: l => by
    rw [pairS_cons, pairS_add2 l, sm_add, sm_const, List.sum_cons, List.length_cons]
    have : (sm l fun y => y) = l.sum := by unfold sm; rw [List.map_id']
    rw [this]
    push_cast; grind
def mnR (a b : Rat) : Rat := if a ≤ b then a else b
theorem mnR_sym (a b : Rat) : mnR a b = mnR b a := by
  unfold mnR
  by_cases h : a ≤ b
  · by_cases k : b ≤ a
    · rw [if_pos h, if_pos k]; exact Rat.le_antisymm h k
    · rw [if_pos h, if_neg k]
  · have k : b ≤ a := by
      rcases Rat.le_total (a := a) (b := b) with q | q
      · exact absurd q h
      · exact q
    rw [if_neg h, if_pos k]
theorem mnR_le (a b : Rat) : mnR a b ≤ a ∧ mnR a b ≤ b := by
  unfold mnR
  by_cases h : a ≤ b
  · rw [if_pos h]; exact ⟨Rat.le_refl, h⟩
  · have k : b ≤ a := by
      rcases Rat.le_total (a := a) (b := b) with q | q
      · exact absurd q h
      · exact q
    rw [if_neg h]; exact ⟨k, Rat.le_refl⟩
def hmR (a b : Rat) : Rat := 2 * (a * (b / (b + a)))
theorem hmR_sym (a b : Rat) : hmR a b = hmR b a := by
  unfold hmR
  rw [Rat.div_def, Rat.div_def, Rat.add_comm b a]; grind
theorem hm_mn {a b : Rat} (ha : 0 < a) (hb : 0 < b) : mnR a b ≤ hmR a b ∧ hmR a b ≤ 2 * mnR a b := by
  have key : ∀ {a b : Rat}, 0 < a → 0 < b → a ≤ b → a ≤ hmR a b ∧ hmR a b ≤ 2 * a := by
    intro a b ha hb h
    unfold hmR
    have h0 : 0 < b + a := by grind
    have c : b / (b + a) * (b + a) = b := Rat.div_mul_cancel (Rat.ne_of_gt h0)
    generalize hq : b / (b + a) = q at c ⊢
    have q1 : q ≤ 1 := by
      refine Rat.not_lt.mp fun z => ?_
      have := Rat.mul_lt_mul_of_pos_right z h0
      rw [c, Rat.one_mul] at this
      grind
    have q2 : (1 : Rat) ≤ 2 * q := by
      refine Rat.not_lt.mp fun z => ?_
      have := Rat.mul_lt_mul_of_pos_right z h0
      grind
    have k1 := Rat.mul_le_mul_of_nonneg_left q1 (Rat.le_of_lt ha)
    have k2 := Rat.mul_le_mul_of_nonneg_left q2 (Rat.le_of_lt ha)
    constructor
    · grind
    · grind
  by_cases h : a ≤ b
  · have : mnR a b = a := by unfold mnR; rw [if_pos h]
    rw [this]; exact key ha hb h
  · have k : b ≤ a := by
      rcases Rat.le_total (a := a) (b := b) with q | q
      · exact absurd q h
      · exact q
    have : mnR a b = b := by unfold mnR; rw [if_neg h]
    rw [this, hmR_sym]; exact key hb ha k
def kasc : List Rat → Rat
  | [] => 0
  | x :: l => (((l.length : Nat) : Rat) + 1) * x + kasc l
theorem kasc_pairs : ∀ {l : List Rat}, l.Pairwise (· ≤ ·) → kasc l = l.sum + pairS mnR l
  | [], _ => by show (0 : Rat) = 0 + 0; rw [Rat.add_zero]
  | x :: l, h => by
    obtain ⟨h1, h2⟩ := List.pairwise_cons.mp h
    have e : (sm l fun y => mnR x y) = sm l fun _ => x := sm_congr fun y hy => by unfold mnR; rw [if_pos (h1 y hy)]
    rw [pairS_cons, e, sm_const, List.sum_cons]
    unfold kasc
    rw [kasc_pairs h2]; grind
theorem mean_bounds {W : List Rat} (hp : ∀ x ∈ W, 0 < x) (hs : W.sum = 1) {n : Nat} (hn : W.length = n) (M B : Rat) (hM : M = 1 + pairS hmR W) (hB : B = 1 + pairS mnR W) :
    B ≤ M ∧ M ≤ B * (2 - 2 / ((n : Rat) + 1)) ∧ 1 ≤ B ∧ 2 * B ≤ (n : Rat) + 1 := by
  have a1 : pairS mnR W ≤ pairS hmR W := pairS_le fun x hx y hy => (hm_mn (hp x hx) (hp y hy)).1
  have a2 : pairS hmR W ≤ pairS (fun x y => 2 * mnR x y) W := pairS_le fun x hx y hy => (hm_mn (hp x hx) (hp y hy)).2
  have a3 : pairS (fun x y => 2 * mnR x y) W ≤ pairS (fun x y => x + y) W := pairS_le fun x hx y hy => by
    have := mnR_le x y
    grind
  rw [pairS_mul] at a2 a3
  rw [pairS_add2, hs, hn] at a3
  have a4 : 0 ≤ pairS mnR W := by
    have : pairS (fun _ _ : Rat => (0 : Rat)) W ≤ pairS mnR W := pairS_le fun x hx y hy => by
      unfold mnR
      split
      · exact Rat.le_of_lt (hp x hx)
      · exact Rat.le_of_lt (hp y hy)
    have e : ∀ l : List Rat, pairS (fun _ _ : Rat => (0 : Rat)) l = 0 := fun l => by
      induction l with
      | nil => rfl
      | cons x l ih => rw [pairS_cons, ih, sm_const]; grind
    rw [e] at this; exact this
  have n0 : (0 : Rat) < (n : Rat) + 1 := by
    have : (0 : Rat) ≤ (n : Rat) := by exact_mod_cast Nat.zero_le n
    grind
  have c : 2 / ((n : Rat) + 1) * ((n : Rat) + 1) = 2 := Rat.div_mul_cancel (Rat.ne_of_gt n0)
  have t0 : 0 ≤ 2 / ((n : Rat) + 1) := by
    rw [Rat.div_def]; exact Rat.mul_nonneg (by decide) (Rat.le_of_lt (Rat.inv_pos.mpr n0))
  have b2 : 2 * B ≤ (n : Rat) + 1 := by grind
  refine ⟨by grind, ?_, by grind, b2⟩
  generalize 2 / ((n : Rat) + 1) = t at c t0 ⊢
  have k := Rat.mul_le_mul_of_nonneg_right b2 t0
  grind
theorem alike_pairs {c : Rat} {f : Rat → Rat → Rat} (hf : f c c = c) {n : Nat} (h : (n : Rat) * c = 1) : 1 + pairS f (List.replicate n c) = ((n : Rat) + 1) / 2 := by
  have e1 : pairS f (List.replicate n c) = pairS (fun x y => (1 / 2 : Rat) * (x + y)) (List.replicate n c) := pairS_congr fun x hx y hy => by
    rw [List.eq_of_mem_replicate hx, List.eq_of_mem_replicate hy, hf]; grind
  have e2 : (List.replicate n c).sum = (n : Rat) * c := by
    have := sm_const c (List.replicate n c)
    rw [List.length_replicate] at this
    rw [← this]
    unfold sm
    rw [List.map_replicate]
  rw [e1, pairS_mul, pairS_add2, e2, h, List.length_replicate]; grind
theorem pairS_ix {f : Rat → Rat → Rat} (hs : ∀ x y, f x y = f y x) (W : List Rat) : (sm (ups W.length) fun i => sm (ups i.toNat) fun j => f (wf W i) (wf W j)) = pairS f W := by
  have tk : ∀ k : Nat, k ≤ W.length → W.take k = (ups k).map (wf W) := fun k hk => by
    apply List.ext_getElem
    · simp [ups, hk]
    · intro i h1 h2
      simp [ups] at h1 h2
      have h3 : i < W.length := by omega
      simp [ups, wf, List.getD_eq_getElem?_getD, h3]
  have key : ∀ k : Nat, k ≤ W.length → (sm (ups k) fun i => sm (ups i.toNat) fun j => f (wf W i) (wf W j)) = pairS f (W.take k) := fun k => by
    induction k with
    | zero => intro _; rfl
    | succ k ih =>
      intro hk
      have e1 : ups (k + 1) = ups k ++ [(k : Int)] := by unfold ups; rw [List.range_succ, List.map_append]; rfl
      have e2 : W.take (k + 1) = W.take k ++ [wf W (k : Int)] := by
        rw [tk (k + 1) hk, tk k (by omega), e1, List.map_append]; rfl
      rw [e1, sm_app, ih (by omega), sm_cons, sm_nil, e2, pairS_snoc, tk k (by omega), sm_map, Int.toNat_natCast]
      have : (sm (ups k) fun j => f (wf W (k : Int)) (wf W j)) = sm (ups k) fun a => f (wf W a) (wf W (k : Int)) := sm_congr fun j _ => hs _ _
      rw [this]; grind
  have := key W.length (Nat.le_refl _)
  rw [List.take_length] at this
  exact this
end H
namespace H
set_option autoImplicit false
open PySem L2 U
section
variable {many : Int} {rows : List (List Int)} {C : Nat} {W : List Rat}
end
end H
namespace H
set_option autoImplicit false
open PySem L2 U
section
variable {many : Int} {rows : List (List Int)} {C : Nat} {W : List Rat}
section
variable (S : SysOk many rows) (L : OnlyLast many rows) (h6 : rows.length ≤ 6) (hW : Wt rows.length C W) (hC : C ≤ 64) {b : Int} (hb : b ∈ ups many.toNat)
include S L h6 hW hC hb
end
end
end H
namespace G_k57_the_bound_of_means
set_option autoImplicit false
open PySem L2 U H
structure Pd (n C P : Nat) (W : List Rat) : Prop where
  hW : Wt n C W
  hP : ∀ x ∈ W, 0 < x
  hQ : ∀ i ∈ ups n, ∀ j ∈ ups n, i ≠ j → Dv P (wf W j / (wf W j + wf W i))
  hP0 : P ≠ 0
  hb : 9 * (C * P) < 2 ^ 4000
  hc : 2 * (C * C) < 2 ^ 4000
  h8 : n ≤ 8
  h1 : 1 ≤ n
section
variable {n C P : Nat} {W : List Rat} (p : Pd n C P W)
include p
theorem Pd.c1 : C < 2 ^ 4000 ∧ P < 2 ^ 4000 ∧ C * P ≠ 0 ∧ 8 * (C * P) < 2 ^ 4000 ∧ C * P < 2 ^ 4000 := by
  have h := p.hb
  have a1 : C ≤ C * P := Nat.le_mul_of_pos_right _ (Nat.pos_of_ne_zero p.hP0)
  have a2 : P ≤ C * P := Nat.le_mul_of_pos_left _ (Nat.pos_of_ne_zero p.hW.c0)
  exact ⟨by omega, by omega, Nat.mul_ne_zero p.hW.c0 p.hP0, by omega, by omega⟩
theorem w_ix {d : Int} (hd : d ∈ ups n) : TL.inR (W.map fr).length d ∧ TL.ixV (W.map fr) d = fr (wf W d) := by
  have hd' : d ∈ ups W.length := by rw [p.hW.len]; exact hd
  exact ⟨by rw [List.length_map]; exact inR_ups hd', wf_ix hd'⟩
theorem w_s {d : Int} (hd : d ∈ ups n) : Sm (wf W d) := Sm1 p.hW.c0 (p.hW.wdv hd) ⟨p.hW.wnn hd, p.hW.le1 hd⟩ p.c1.1
theorem wps {d : Int} (hd : d ∈ ups n) : 0 < wf W d := p.hP _ (wf_mem (by rw [p.hW.len]; exact hd))
theorem pair_rg {i j : Int} (hi : i ∈ ups n) (hj : j ∈ ups n) (hne : i ≠ j) : 0 < wf W j + wf W i ∧ wf W j + wf W i ≤ 1 ∧ Dv C (wf W j + wf W i) ∧ 0 ≤ wf W j / (wf W j + wf W i) ∧ wf W j / (wf W j + wf W i) ≤ 1 := by
  have p1 := wps p hi
  have p2 := wps p hj
  have h0 : 0 < wf W j + wf W i := by grind
  have h1 : wf W j + wf W i ≤ 1 := by
    have := p.hW.sub_le (l := [j, i]) (by rw [List.nodup_cons]; exact ⟨fun h => hne (List.mem_singleton.mp h).symm, by simp⟩) (fun d hd => by
      simp only [List.mem_cons, List.not_mem_nil, or_false] at hd
      rcases hd with rfl | rfl
      · exact hj
      · exact hi)
    rw [sm_cons, sm_cons, sm_nil, Rat.add_zero] at this
    exact this
  have c : wf W j / (wf W j + wf W i) * (wf W j + wf W i) = wf W j := Rat.div_mul_cancel (Rat.ne_of_gt h0)
  have n0 : 0 ≤ wf W j / (wf W j + wf W i) := by
    rw [Rat.div_def]; exact Rat.mul_nonneg (Rat.le_of_lt p2) (Rat.le_of_lt (Rat.inv_pos.mpr h0))
  refine ⟨h0, h1, (p.hW.wdv hj).add (p.hW.wdv hi), n0, ?_⟩
  refine Rat.not_lt.mp fun h => ?_
  have := Rat.mul_lt_mul_of_pos_right h h0
  rw [c, Rat.one_mul] at this
  grind
theorem pd_ix : (sm (ups n) fun i => sm (ups i.toNat) fun j => hmR (wf W i) (wf W j)) = pairS hmR W := by
  have := pairS_ix hmR_sym W
  rw [p.hW.len] at this
  exact this
theorem m_tot : 1 + pairS hmR W ≤ ((8 : Nat) : Rat) := by
  obtain ⟨b1, b2, b3, b4⟩ := mean_bounds p.hP p.hW.sum p.hW.len _ _ rfl rfl
  have a2 : pairS hmR W ≤ pairS (fun x y => 2 * mnR x y) W := pairS_le fun x hx y hy => (hm_mn (p.hP x hx) (p.hP y hy)).2
  rw [pairS_mul] at a2
  have h3 : ((n : Nat) : Rat) ≤ ((8 : Nat) : Rat) := by exact_mod_cast p.h8
  grind
theorem two {i : Int} (hi : i ∈ ups n) {j : Int} (hj : j ∈ ups i.toNat) : j ∈ ups n ∧ i ≠ j := by
  have h1 := ups_mem hi
  have h2 := ups_mem hj
  exact ⟨ups_in h2.1 (by omega), by omega⟩
theorem pr_dv {i j : Int} (hi : i ∈ ups n) (hj : j ∈ ups n) (hne : i ≠ j) : 0 ≤ wf W i * (wf W j / (wf W j + wf W i)) ∧ Dv (C * P) (wf W i * (wf W j / (wf W j + wf W i))) := by
  obtain ⟨r1, r2, r3, r4, r5⟩ := pair_rg p hi hj hne
  exact ⟨Rat.mul_nonneg (p.hW.wnn hi) r4, (p.hW.wdv hi).mul (p.hQ i hi j hj hne)⟩
theorem term {i : Int} (hi : i ∈ ups n) {j : Int} (hj : j ∈ ups i.toNat) : 0 ≤ hmR (wf W i) (wf W j) ∧ Dv (C * P) (hmR (wf W i) (wf W j)) := by
  obtain ⟨hj2, hne⟩ := two p hi hj
  obtain ⟨a1, a2⟩ := pr_dv p hi hj2 hne
  unfold hmR
  refine ⟨by grind, ?_⟩
  rw [show (2 : Rat) * (wf W i * (wf W j / (wf W j + wf W i))) = wf W i * (wf W j / (wf W j + wf W i)) + wf W i * (wf W j / (wf W j + wf W i)) by grind]
  exact a2.add a2
theorem terms {i : Int} (hi : i ∈ ups n) : 0 ≤ (sm (ups i.toNat) fun j => hmR (wf W i) (wf W j)) ∧ Dv (C * P) (sm (ups i.toNat) fun j => hmR (wf W i) (wf W j)) := by
  refine ⟨sm_nn fun j hj => (term p hi hj).1, ?_⟩
  unfold sm
  refine Dv.sum fun x hx => ?_
  obtain ⟨j, hj, rfl⟩ := List.mem_map.mp hx
  exact (term p hi hj).2
theorem sm8 {q : Rat} (h0 : 0 ≤ q) (hd : Dv (C * P) q) (h : q ≤ ((8 : Nat) : Rat)) : Sm q := by
  obtain ⟨c1, c2, c3, c4, c5⟩ := p.c1
  have c8 : ((8 : Nat) : Rat) = 8 := rfl
  rw [c8] at h
  exact Sm_of (K := 8) c3 hd ⟨by rw [c8]; grind, by rw [c8]; exact h⟩ c4 c5
theorem pair_loop {gb1 : Int → Int × Int → Int → Prop} {vb1 : Int → Int × Int → Int → Int × Int} (h : ∀ i ∈ ups n, ∀ j ∈ ups i.toNat, ∀ q : Rat, 0 ≤ q → Dv (C * P) q → q + hmR (wf W i) (wf W j) ≤ ((8 : Nat) : Rat) → gb1 i (fr q) j ∧ vb1 i (fr q) j = fr (q + hmR (wf W i) (wf W j))) :
    TL.gFor (fun s i => TL.rgG i ∧ TL.gFor (gb1 i) (vb1 i) (ups i.toNat) s) (fun s i => List.foldl (vb1 i) s (ups i.toNat)) (ups n) ((1 : Int), (1 : Int)) ∧ List.foldl (fun s i => List.foldl (vb1 i) s (ups i.toNat)) ((1 : Int), (1 : Int)) (ups n) = fr (1 + pairS hmR W) := by
  have f := sum_turns (gb := fun s i => TL.rgG i ∧ TL.gFor (gb1 i) (vb1 i) (ups i.toNat) s) (vb := fun s i => List.foldl (vb1 i) s (ups i.toNat)) (fun i => sm (ups i.toNat) fun j => hmR (wf W i) (wf W j)) (N := C * P) (K := 8) (ups n) 1 (fun q i hi nq dq hq => by
    have him := ups_mem hi
    have hn8 := p.h8
    have k := sum_turns (gb := gb1 i) (vb := vb1 i) (fun j => hmR (wf W i) (wf W j)) (N := C * P) (K := 8) (ups i.toNat) q (fun q j hj nq dq hq => h i hi j hj q nq dq hq) (fun j hj => term p hi hj) nq dq hq
    exact ⟨⟨rgG_s him.1 (by omega), k.1⟩, k.2⟩) (fun i hi => terms p hi) (by decide) (Dv.one _) (by rw [pd_ix p]; exact m_tot p)
  rw [pd_ix p] at f
  exact f
theorem mean_ok : g_mean_cost (W.map fr) ∧ v_mean_cost (W.map fr) = fr (1 + pairS hmR W) := by
  have f := pair_loop p (gb1 := g_mean_cost_b1 (W.map fr)) (vb1 := v_mean_cost_b1 (W.map fr)) fun i hi j hj q nq dq hq => by
    obtain ⟨hj2, hne⟩ := two p hi hj
    obtain ⟨r1, r2, r3, r4, r5⟩ := pair_rg p hi hj2 hne
    obtain ⟨t1, t2⟩ := term p hi hj
    obtain ⟨c1, c2, c3, c4, c5⟩ := p.c1
    have c8 : ((8 : Nat) : Rat) = 8 := rfl
    have wi := w_ix p hi
    have wj := w_ix p hj2
    have si := w_s p hi
    have sj := w_s p hj2
    have pl := H.s_plus sj si
    have sR : Sm (wf W j + wf W i) := Sm1 p.hW.c0 r3 ⟨Rat.le_of_lt r1, r2⟩ c1
    have ov := H.s_over sj sR (Rat.ne_of_gt r1)
    have sq : Sm (wf W j / (wf W j + wf W i)) := Sm1 p.hP0 (p.hQ i hi j hj2 hne) ⟨r4, r5⟩ c2
    have tm := H.s_times si sq
    obtain ⟨a1, a2⟩ := pr_dv p hi hj2 hne
    have sp : Sm (wf W i * (wf W j / (wf W j + wf W i))) := sm8 p a1 a2 (by unfold hmR at hq t1; grind)
    have tm2 := H.s_times two_sm sp
    have s1 : Sm q := sm8 p nq dq (by grind)
    have s2 : Sm (2 * (wf W i * (wf W j / (wf W j + wf W i)))) := sm8 p t1 t2 (by unfold hmR at hq; grind)
    have pl2 := H.s_plus s1 s2
    have ep : v_pair_ahead (W.map fr) j i = fr (wf W j / (wf W j + wf W i)) := by
      unfold v_pair_ahead
      rw [wj.2, wi.2, pl.2, ov.2]
    have gp : g_pair_ahead (W.map fr) j i := by
      refine ⟨wj.1, wj.1, wi.1, ?_, ?_⟩
      · rw [wj.2, wi.2]; exact pl.1
      · rw [wj.2, wi.2, pl.2]; exact ov.1
    have e1 : H.v_times (TL.ixV (W.map fr) i) (v_pair_ahead (W.map fr) j i) = fr (wf W i * (wf W j / (wf W j + wf W i))) := by rw [wi.2, ep, tm.2]
    have e2 : H.v_times ((2 : Int), (1 : Int)) (H.v_times (TL.ixV (W.map fr) i) (v_pair_ahead (W.map fr) j i)) = fr (2 * (wf W i * (wf W j / (wf W j + wf W i)))) := by rw [e1]; exact tm2.2
    constructor
    · refine ⟨wi.1, gp, ?_, ?_, ?_⟩
      · rw [wi.2, ep]; exact tm.1
      · rw [e1]; exact tm2.1
      · rw [e2]; exact pl2.1
    · unfold v_mean_cost_b1
      rw [e2]; exact pl2.2
  have hl : (W.map fr).length = n := by rw [List.length_map, p.hW.len]
  have e : ((W.map fr).length : Int).toNat = n := by rw [hl]; exact Int.toNat_natCast n
  have hn8 := p.h8
  constructor
  · refine ⟨rgG_s (by omega) (by rw [hl]; omega), ?_⟩
    rw [e]; exact f.1
  · unfold v_mean_cost
    rw [e]; exact f.2
theorem due_ok : (TL.gFor (g_law_b4 (W.map fr)) (v_law_b4 (W.map fr)) (ups n) ((1 : Int), (1 : Int))) ∧ List.foldl (v_law_b4 (W.map fr)) ((1 : Int), (1 : Int)) (ups n) = fr (1 + pairS hmR W) := by
  exact pair_loop p (gb1 := g_law_b3 (W.map fr)) (vb1 := v_law_b3 (W.map fr)) fun i hi j hj q nq dq hq => by
    obtain ⟨hj2, hne⟩ := two p hi hj
    obtain ⟨r1, r2, r3, r4, r5⟩ := pair_rg p hi hj2 hne
    obtain ⟨t1, t2⟩ := term p hi hj
    obtain ⟨c1, c2, c3, c4, c5⟩ := p.c1
    have wi := w_ix p hi
    have wj := w_ix p hj2
    have si := w_s p hi
    have sj := w_s p hj2
    have tm := H.s_law_times sj si
    have hii := p.hW.le1 hi
    have hjj := p.hW.le1 hj2
    have hi0 := p.hW.wnn hi
    have hj0 := p.hW.wnn hj2
    have hij : wf W j * wf W i ≤ 1 := by
      have := Rat.mul_le_mul_of_nonneg_right hjj hi0
      grind
    have hij0 : 0 ≤ wf W j * wf W i := Rat.mul_nonneg hj0 hi0
    have sC : C * C < 2 ^ 4000 ∧ 2 * (C * C) < 2 ^ 4000 := ⟨by have := p.hc; omega, p.hc⟩
    have sM : Sm (wf W j * wf W i) := Sm1 (Nat.mul_ne_zero p.hW.c0 p.hW.c0) ((p.hW.wdv hj2).mul (p.hW.wdv hi)) ⟨hij0, hij⟩ sC.1
    have tm2 := H.s_law_times two_sm sM
    have s2M : Sm (2 * (wf W j * wf W i)) := by
      have d := (p.hW.wdv hj2).mul (p.hW.wdv hi)
      refine Sm_of (K := 2) (Nat.mul_ne_zero p.hW.c0 p.hW.c0) (by rw [show (2 : Rat) * (wf W j * wf W i) = wf W j * wf W i + wf W j * wf W i by grind]; exact d.add d) ⟨?_, ?_⟩ sC.2 sC.1
      · show -(2 : Rat) ≤ _; grind
      · show _ ≤ (2 : Rat); grind
    have pl := H.s_law_plus sj si
    have sR : Sm (wf W j + wf W i) := Sm1 p.hW.c0 r3 ⟨Rat.le_of_lt r1, r2⟩ c1
    have ov := H.s_law_over s2M sR (Rat.ne_of_gt r1)
    have eh : 2 * (wf W j * wf W i) / (wf W j + wf W i) = hmR (wf W i) (wf W j) := by unfold hmR; rw [Rat.div_def, Rat.div_def]; grind
    rw [eh] at ov
    have s1 : Sm q := sm8 p nq dq (by grind)
    have s2 : Sm (hmR (wf W i) (wf W j)) := sm8 p t1 t2 (by grind)
    have pl2 := H.s_law_plus s1 s2
    have e1 : H.v_law_times (TL.ixV (W.map fr) j) (TL.ixV (W.map fr) i) = fr (wf W j * wf W i) := by rw [wi.2, wj.2, tm.2]
    have e2 : H.v_law_times ((2 : Int), (1 : Int)) (fr (wf W j * wf W i)) = fr (2 * (wf W j * wf W i)) := tm2.2
    have e3 : H.v_law_plus (TL.ixV (W.map fr) j) (TL.ixV (W.map fr) i) = fr (wf W j + wf W i) := by rw [wi.2, wj.2, pl.2]
    have e4 : v_law_over (fr (2 * (wf W j * wf W i))) (fr (wf W j + wf W i)) = fr (hmR (wf W i) (wf W j)) := ov.2
    constructor
    · unfold g_law_b3
      rw [e1, e2, e3, e4]
      refine ⟨wj.1, wi.1, ?_, tm2.1, wj.1, wi.1, ?_, ov.1, pl2.1⟩
      · rw [wj.2, wi.2]; exact tm.1
      · rw [wj.2, wi.2]; exact pl.1
    · unfold v_law_b3
      rw [e1, e2, e3, e4]; exact pl2.2
end
end G_k57_the_bound_of_means
namespace G_k57_the_bound_of_means
set_option autoImplicit false
open PySem L2 U H
theorem kasc_cons (x : Rat) (l : List Rat) : kasc (x :: l) = (((l.length : Nat) : Rat) + 1) * x + kasc l := rfl
def cnt (x : Rat) (S : List Rat) : Nat := (S.filter fun y => decide (y ≤ x)).length
theorem cnt_le (x : Rat) (S : List Rat) : cnt x S ≤ S.length := List.length_filter_le _ _
theorem ins_ok (x : Rat) : ∀ {S : List Rat}, S.Pairwise (· ≤ ·) → (S.take (cnt x S) ++ [x] ++ S.drop (cnt x S)).Pairwise (· ≤ ·) ∧ (S.take (cnt x S) ++ [x] ++ S.drop (cnt x S)).Perm (x :: S)
  | [], _ => by
    show ([] ++ [x] ++ [] : List Rat).Pairwise _ ∧ _
    simp
  | y :: S, h => by
    obtain ⟨h1, h2⟩ := List.pairwise_cons.mp h
    by_cases q : y ≤ x
    · have e : cnt x (y :: S) = cnt x S + 1 := by
        unfold cnt
        rw [List.filter_cons_of_pos (p := fun y => decide (y ≤ x)) (decide_eq_true q), List.length_cons]
      obtain ⟨i1, i2⟩ := ins_ok x h2
      rw [e, List.take_succ_cons, List.drop_succ_cons]
      refine ⟨?_, ?_⟩
      · show (y :: (S.take (cnt x S) ++ [x] ++ S.drop (cnt x S))).Pairwise _
        refine List.pairwise_cons.mpr ⟨fun z hz => ?_, i1⟩
        rcases List.mem_cons.mp (i2.mem_iff.mp hz) with rfl | hz
        · exact q
        · exact h1 z hz
      · exact (i2.cons y).trans (List.Perm.swap x y S)
    · have e : cnt x (y :: S) = 0 := by
        unfold cnt
        rw [List.length_eq_zero_iff, List.filter_eq_nil_iff]
        intro z hz
        have hyz : y ≤ z := by
          rcases List.mem_cons.mp hz with rfl | hz
          · exact Rat.le_refl
          · exact h1 z hz
        intro hd
        exact q (Rat.le_trans hyz (of_decide_eq_true hd))
      have hxy : x ≤ y := by
        rcases Rat.le_total (a := x) (b := y) with k | k
        · exact k
        · exact absurd k q
      rw [e]
      show (x :: y :: S).Pairwise _ ∧ _
      refine ⟨List.pairwise_cons.mpr ⟨fun z hz => ?_, h⟩, List.Perm.refl _⟩
      rcases List.mem_cons.mp hz with rfl | hz
      · exact hxy
      · exact Rat.le_trans hxy (h1 z hz)
abbrev Row := (Int × Int) × Int
theorem fm_len {d : Row} {x : Rat} (hd : d.1 = fr x) : ∀ {s : List Row} {S : List Rat}, s.map (·.1) = S.map fr → (List.filterMap (v_in_order_all_b1 d) s).length = cnt x S
  | [], [], _ => rfl
  | [], _ :: _, h => by simp at h
  | _ :: _, [], h => by simp at h
  | r :: s, y :: S, h => by
    rw [List.map_cons, List.map_cons, List.cons.injEq] at h
    have ih := fm_len hd h.2
    have e : decide ((r.1.1 * d.1.2) ≤ (d.1.1 * r.1.2)) = decide (y ≤ x) := by
      rw [hd, h.1]
      exact decide_eq_decide.mpr (Rat.le_iff y x).symm
    rw [List.filterMap_cons]
    unfold v_in_order_all_b1 cnt
    rw [e]
    cases q : decide (y ≤ x) with
    | true =>
      rw [List.filter_cons_of_pos (by rw [q])]
      show (_ :: _).length = (_ :: _).length
      rw [List.length_cons, List.length_cons]
      exact congrArg (· + 1) ih
    | false =>
      rw [List.filter_cons_of_neg (by rw [q]; exact Bool.false_ne_true)]
      exact ih
theorem in_order {l : List Rat} : ∀ {R s : List Row} {S : List Rat}, R.map (·.1) = l.map fr → (∀ x ∈ l, Sm x) → s.map (·.1) = S.map fr → (∀ x ∈ S, Sm x) → S.Pairwise (· ≤ ·) → S.length + l.length ≤ 1000 →
    TL.gFor g_in_order_all_b2 v_in_order_all_b2 R s ∧ ∃ S' : List Rat, (List.foldl v_in_order_all_b2 s R).map (·.1) = S'.map fr ∧ S'.Pairwise (· ≤ ·) ∧ S'.Perm (S ++ l) := by
  induction l with
  | nil =>
    intro R s S hR _ hs _ hp _
    have : R = [] := by
      cases R with
      | nil => rfl
      | cons _ _ => simp at hR
    subst this
    exact ⟨trivial, S, hs, hp, by rw [List.append_nil]⟩
  | cons x l ih =>
    intro R s S hR hl hs hS hp hn
    cases R with
    | nil => simp at hR
    | cons d R =>
      rw [List.map_cons, List.map_cons, List.cons.injEq] at hR
      rw [List.length_cons] at hn
      have hlen : s.length = S.length := by have := congrArg List.length hs; rwa [List.length_map, List.length_map] at this
      have hc := fm_len hR.1 hs
      have hcl := cnt_le x S
      have hsx := hl x List.mem_cons_self
      obtain ⟨i1, i2⟩ := ins_ok x hp
      have ev : v_in_order_all_b2 s d = s.take (cnt x S) ++ [d] ++ s.drop (cnt x S) := by
        unfold v_in_order_all_b2
        dsimp only [TL.letV]
        rw [hc, TL.cutV_to _ (by omega), TL.cutV_fr _ (by omega), Int.toNat_natCast]
      have hm : (v_in_order_all_b2 s d).map (·.1) = (S.take (cnt x S) ++ [x] ++ S.drop (cnt x S)).map fr := by
        rw [ev]
        simp only [List.map_append, List.map_take, List.map_drop, List.map_cons, List.map_nil, hs, hR.1]
      have hS2 : ∀ y ∈ S.take (cnt x S) ++ [x] ++ S.drop (cnt x S), Sm y := fun y hy => by
        rcases List.mem_cons.mp (i2.mem_iff.mp hy) with rfl | hy
        · exact hsx
        · exact hS y hy
      have hl2 := i2.length_eq
      rw [List.length_cons] at hl2
      obtain ⟨k1, S', k2, k3, k4⟩ := ih hR.2 (fun y hy => hl y (List.mem_cons_of_mem _ hy)) hm hS2 i1 (by omega)
      refine ⟨⟨?_, k1⟩, S', k2, k3, ?_⟩
      · refine ⟨by rw [hlen]; unfold TL.lenG; omega, fun r hr => ?_, ?_⟩
        · have : r.1 ∈ s.map (·.1) := List.mem_map.mpr ⟨r, hr, rfl⟩
          rw [hs] at this
          obtain ⟨y, hy, e⟩ := List.mem_map.mp this
          have sy := hS y hy
          unfold g_in_order_all_b1
          rw [← e, hR.1]
          exact ⟨gmul1 sy hsx, gmul1 hsx sy⟩
        · intro t e
          subst e
          rw [hc, TL.cutV_to _ (by omega), TL.cutV_fr _ (by omega), Int.toNat_natCast]
          simp only [List.length_append, List.length_take, List.length_drop, List.length_singleton]
          unfold TL.lenG
          omega
      · refine k4.trans (((i2.append_right l)).trans ?_)
        show (x :: (S ++ l)).Perm _
        exact List.perm_middle.symm
theorem rows_of : ∀ (l : List (Int × Int)) (s : List Row), s.length + l.length ≤ 1000 → TL.gFor g_best_cost_b1 v_best_cost_b1 l s ∧ (List.foldl v_best_cost_b1 s l).map (·.1) = s.map (·.1) ++ l
  | [], s, _ => ⟨trivial, by rw [List.append_nil]; rfl⟩
  | x :: l, s, h => by
    rw [List.length_cons] at h
    have e : v_best_cost_b1 s x = s ++ [(x, (s.length : Int))] := rfl
    have k := rows_of l (s ++ [(x, (s.length : Int))]) (by rw [List.length_append, List.length_singleton]; omega)
    refine ⟨⟨?_, ?_⟩, ?_⟩
    · show TL.appG s.length
      unfold TL.appG; omega
    · rw [e]; exact k.1
    · rw [List.foldl_cons, e, k.2, List.map_append, List.append_assoc]; rfl
section
variable {n C P : Nat} {W : List Rat} (p : Pd n C P W)
include p
theorem cost_loop : ∀ (R : List Row) (S : List Rat) (k : Nat) (q : Rat), R.map (·.1) = S.map fr → (∀ x ∈ S, 0 < x ∧ x ≤ 1 ∧ Dv C x) → k + S.length = n → 0 ≤ q → Dv C q → q + kasc S ≤ ((8 : Nat) : Rat) →
    TL.gFor (g_best_cost_b2 (W.map fr)) (v_best_cost_b2 (W.map fr)) (TL.enV k R) (fr q) ∧ List.foldl (v_best_cost_b2 (W.map fr)) (fr q) (TL.enV k R) = fr (q + kasc S)
  | [], [], k, q, _, _, _, _, _, _ => ⟨trivial, by show fr q = fr (q + 0); rw [Rat.add_zero]⟩
  | [], _ :: _, _, _, h, _, _, _, _, _ => by simp at h
  | _ :: _, [], _, _, h, _, _, _, _, _ => by simp at h
  | r :: R, x :: S, k, q, h, hS, hk, h0, hd, ht => by
    rw [List.map_cons, List.map_cons, List.cons.injEq] at h
    rw [List.length_cons] at hk
    obtain ⟨x0, x1, xd⟩ := hS x List.mem_cons_self
    have hS' := fun y hy => hS y (List.mem_cons_of_mem _ hy)
    have kn : ∀ l : List Rat, (∀ y ∈ l, 0 < y ∧ y ≤ 1 ∧ Dv C y) → 0 ≤ kasc l := fun l => by
      induction l with
      | nil => intro _; exact Rat.le_refl
      | cons y l ih =>
        intro hl
        have h1 := (hl y List.mem_cons_self).1
        have h2 := ih fun z hz => hl z (List.mem_cons_of_mem _ hz)
        have h3 : (0 : Rat) ≤ ((l.length : Nat) : Rat) := by exact_mod_cast Nat.zero_le _
        have h4 : 0 ≤ (((l.length : Nat) : Rat) + 1) * y := Rat.mul_nonneg (by grind) (Rat.le_of_lt h1)
        rw [kasc_cons]; grind
    have k0 := kn S hS'
    obtain ⟨c1, c2, c3, c4, c5⟩ := p.c1
    have hC8 : 8 * C < 2 ^ 4000 := by
      have a1 : C ≤ C * P := Nat.le_mul_of_pos_right _ (Nat.pos_of_ne_zero p.hP0)
      omega
    have c8 : ((8 : Nat) : Rat) = 8 := rfl
    have hn8 := p.h8
    have el : (((W.map fr).length : Int) - (k : Int)) = ((S.length + 1 : Nat) : Int) := by
      rw [List.length_map, p.hW.len]; omega
    have ef : ((((W.map fr).length : Int) - (k : Int)), (1 : Int)) = fr (((S.length + 1 : Nat) : Int) : Rat) := by rw [el]; rfl
    have hm8 : ((S.length + 1 : Nat) : Rat) ≤ 8 := by rw [← c8]; exact_mod_cast (show S.length + 1 ≤ 8 by omega)
    have ez : ((((S.length + 1 : Nat) : Int)) : Rat) = ((S.length : Nat) : Rat) + 1 := by push_cast; rfl
    have sN : Sm (((S.length + 1 : Nat) : Int) : Rat) := by
      refine ⟨?_, ?_⟩
      · show (((S.length + 1 : Nat) : Int)).natAbs < _
        have : (9 : Nat) < 2 ^ 4000 := by decide +kernel
        omega
      · show 1 < _
        decide +kernel
    have sx : Sm x := Sm1 p.hW.c0 xd ⟨Rat.le_of_lt x0, x1⟩ c1
    have tm := H.s_times sx sN
    have pr0 : 0 ≤ x * (((S.length + 1 : Nat) : Int) : Rat) := by
      rw [ez]
      have h3 : (0 : Rat) ≤ ((S.length : Nat) : Rat) := by exact_mod_cast Nat.zero_le _
      exact Rat.mul_nonneg (Rat.le_of_lt x0) (by grind)
    have prd : Dv C (x * (((S.length + 1 : Nat) : Int) : Rat)) := by
      have := xd.mul (Dv.int 1 ((S.length + 1 : Nat) : Int))
      rwa [Nat.mul_one] at this
    have ek : kasc (x :: S) = x * (((S.length + 1 : Nat) : Int) : Rat) + kasc S := by rw [ez, kasc_cons]; grind
    rw [ek] at ht ⊢
    have small : ∀ z : Rat, 0 ≤ z → z ≤ ((8 : Nat) : Rat) → Dv C z → Sm z := fun z z0 z8 zd => Sm_of (K := 8) p.hW.c0 zd ⟨by rw [c8] at z8 ⊢; grind, z8⟩ hC8 c1
    have s1 := small q h0 (by grind) hd
    have s2 := small _ pr0 (by grind) prd
    have pl := H.s_plus s1 s2
    have ih := cost_loop R S (k + 1) (q + x * (((S.length + 1 : Nat) : Int) : Rat)) h.2 hS' (by omega) (Rat.add_nonneg h0 pr0) (hd.add prd) (by grind)
    have ev : v_best_cost_b2 (W.map fr) (fr q) ((k : Int), r) = fr (q + x * (((S.length + 1 : Nat) : Int) : Rat)) := by
      unfold v_best_cost_b2
      dsimp only
      rw [h.1, ef, tm.2, pl.2]
    show (_ ∧ _) ∧ _
    refine ⟨⟨?_, ?_⟩, ?_⟩
    · unfold g_best_cost_b2
      dsimp only
      rw [h.1, ef, tm.2]
      exact ⟨tm.1, pl.1⟩
    · rw [ev]; exact ih.1
    · show List.foldl _ (v_best_cost_b2 (W.map fr) (fr q) ((k : Int), r)) (TL.enV (k + 1) R) = _
      rw [ev, ih.2]
      congr 1; grind
theorem best_ok : g_best_cost (W.map fr) ∧ v_best_cost (W.map fr) = fr (1 + pairS mnR W) := by
  have hn8 := p.h8
  have hl : (W.map fr).length = n := by rw [List.length_map, p.hW.len]
  have rw1 := rows_of (W.map fr) [] (by rw [hl]; simp; omega)
  have sW : ∀ x ∈ W, Sm x := fun x hx => by
    have h := p.hW.nn x hx
    have h1 : x ≤ 1 := by
      obtain ⟨i, hi, e⟩ := List.getElem_of_mem hx
      have hu : ((i : Nat) : Int) ∈ ups n := ups_in (by omega) (by rw [← p.hW.len]; omega)
      have := p.hW.le1 hu
      unfold wf at this
      rw [Int.toNat_natCast, List.getD_eq_getElem?_getD, List.getElem?_eq_getElem hi] at this
      rw [← e]; exact this
    exact Sm1 p.hW.c0 h.2 ⟨h.1, h1⟩ p.c1.1
  obtain ⟨g1, S, e1, hs, hp⟩ := in_order (l := W) (R := List.foldl v_best_cost_b1 [] (W.map fr)) (s := []) (S := []) (by rw [rw1.2]; rfl) sW rfl (fun _ h => by cases h) List.Pairwise.nil (by rw [p.hW.len]; simp; omega)
  rw [List.nil_append] at hp
  have hW1 : ∀ x ∈ W, x ≤ 1 := fun x hx => by
    obtain ⟨i, hi, e⟩ := List.getElem_of_mem hx
    have hu : ((i : Nat) : Int) ∈ ups n := ups_in (by omega) (by rw [← p.hW.len]; omega)
    have := p.hW.le1 hu
    unfold wf at this
    rw [Int.toNat_natCast, List.getD_eq_getElem?_getD, List.getElem?_eq_getElem hi] at this
    rw [← e]; exact this
  have sumS : S.sum = 1 := by
    have := sm_perm hp (fun x => x)
    unfold sm at this
    rw [List.map_id', List.map_id'] at this
    rw [this]; exact p.hW.sum
  have ek : kasc S = 1 + pairS mnR W := by rw [kasc_pairs hs, sumS, pairS_perm mnR_sym hp]
  have t8 : (0 : Rat) + kasc S ≤ ((8 : Nat) : Rat) := by
    obtain ⟨b1, b2, b3, b4⟩ := mean_bounds p.hP p.hW.sum p.hW.len _ _ rfl rfl
    have := m_tot p
    rw [ek]; grind
  have lp := cost_loop p (v_in_order_all (List.foldl v_best_cost_b1 [] (W.map fr))) S 0 0 e1 (fun x hx => by
    have hx := hp.mem_iff.mp hx
    exact ⟨p.hP x hx, hW1 x hx, (p.hW.nn x hx).2⟩) (by have := hp.length_eq; rw [p.hW.len] at this; omega) Rat.le_refl (Dv.zero _) t8
  rw [ek] at lp
  refine ⟨⟨rw1.1, g1, lp.1⟩, ?_⟩
  unfold v_best_cost
  have := lp.2
  rw [Rat.zero_add] at this
  exact this
end
def kascI : List Int → Int
  | [] => 0
  | x :: l => ((l.length : Int) + 1) * x + kascI l
theorem enV_snoc {α : Type} (x : α) : ∀ (l : List α) (k : Nat), TL.enV k (l ++ [x]) = TL.enV k l ++ [(((k + l.length : Nat) : Int), x)]
  | [], k => rfl
  | y :: l, k => by
    rw [List.cons_append, TL.enV, enV_snoc x l (k + 1), TL.enV, List.cons_append, List.length_cons, show k + 1 + l.length = k + (l.length + 1) by omega]
theorem kept_sum : ∀ l : List Int, ((TL.enV 0 l.reverse).map v_law_b5).sum = kascI l
  | [] => rfl
  | x :: l => by
    rw [List.reverse_cons, enV_snoc, List.map_append, List.sum_append, kept_sum l]
    simp only [List.map_cons, List.map_nil, List.sum_cons, List.sum_nil, List.length_reverse, Nat.zero_add]
    unfold v_law_b5
    dsimp only
    show kascI l + (x * ((l.length : Int) + 1) + 0) = ((l.length : Int) + 1) * x + kascI l
    rw [Int.mul_comm x]; omega
theorem kasc_div (t : Int) : ∀ l : List Int, kasc (l.map fun z => Rat.divInt z t) = ((kascI l : Int) : Rat) / (t : Rat)
  | [] => by
    show (0 : Rat) = ((0 : Int) : Rat) / _
    rw [Rat.div_def]; push_cast; grind
  | x :: l => by
    rw [List.map_cons]
    unfold kasc kascI
    rw [kasc_div t l, List.length_map, Rat.divInt_eq_div, Rat.div_def, Rat.div_def, Rat.div_def]
    push_cast
    grind
end G_k57_the_bound_of_means
namespace G_k57_the_bound_of_means
set_option autoImplicit false
open PySem L2 U H
def P0 : Nat := fac 18 * (1001 * 1002 * 1003 * 1004 * 1005 * 1006 * 1007 * 1008 * 1009) * 2000
def Shr (z : Int) : Prop := (1 ≤ z ∧ z ≤ 9) ∨ z = 1000
theorem p0_dvd {a b : Int} (ha : Shr a) (hb : Shr b) : (a + b).toNat ∣ P0 ∧ 0 < a + b := by
  have one : ∀ z : Int, 1 ≤ z ∧ z ≤ 9 → (z + 1000).toNat ∣ P0 := fun z hz => by
    have : z = 1 ∨ z = 2 ∨ z = 3 ∨ z = 4 ∨ z = 5 ∨ z = 6 ∨ z = 7 ∨ z = 8 ∨ z = 9 := by omega
    rcases this with rfl | rfl | rfl | rfl | rfl | rfl | rfl | rfl | rfl <;> decide +kernel
  rcases ha with ha | rfl <;> rcases hb with hb | rfl
  · refine ⟨?_, by omega⟩
    have : (a + b).toNat ∣ fac 18 := fac_dvd 18 _ (by omega) (by omega)
    exact Nat.dvd_trans this ⟨(1001 * 1002 * 1003 * 1004 * 1005 * 1006 * 1007 * 1008 * 1009) * 2000, by unfold P0; rw [Nat.mul_assoc]⟩
  · exact ⟨one a ha, by omega⟩
  · exact ⟨by rw [Int.add_comm]; exact one b hb, by omega⟩
  · exact ⟨by decide +kernel, by decide⟩
theorem dv_quot {P : Nat} {x y : Rat} {t a b : Int} (hx : x * (t : Rat) = (a : Rat)) (hy : y * (t : Rat) = (b : Rat)) (h : x + y ≠ 0) (h0 : 0 < a + b) (hd : (a + b).toNat ∣ P) : Dv P (x / (x + y)) := by
  obtain ⟨k, rfl⟩ := hd
  have c : x / (x + y) * (x + y) = x := Rat.div_mul_cancel h
  generalize x / (x + y) = q at c
  have e : (((a + b).toNat : Nat) : Rat) = (a : Rat) + (b : Rat) := by
    have : (((a + b).toNat : Nat) : Int) = a + b := Int.toNat_of_nonneg (by omega)
    have h2 : ((((a + b).toNat : Nat) : Int) : Rat) = ((a + b : Int) : Rat) := by rw [this]
    push_cast at h2
    exact h2
  refine ⟨a * k, ?_⟩
  push_cast
  rw [e, ← hx, ← hy]
  grind
theorem pd_of {l : List Int} (h : ∀ z ∈ l, Shr z) (h1 : 1 ≤ l.length) (h8 : l.length ≤ 8) : 0 < l.sum ∧ l.sum ≤ 8000 ∧ Pd l.length l.sum.toNat P0 (l.map fun z => Rat.divInt z l.sum) := by
  have hz : ∀ z ∈ l, 1 ≤ z ∧ z ≤ 1000 := fun z hz => by rcases h z hz with q | q <;> omega
  have hr := sum_rg l 1 1000 hz
  have hs : 0 < l.sum := by omega
  have hm : l.sum ≤ 8000 := by omega
  obtain ⟨hW, hC⟩ := share_wt (l := l) (B := 8000) (fun z k => by have := hz z k; omega) hs (by omega)
  have t0 : ((l.sum : Int) : Rat) ≠ 0 := by
    intro e
    have : l.sum = 0 := by exact_mod_cast e
    omega
  refine ⟨hs, hm, hW, fun x hx => ?_, fun i hi j hj hne => ?_, by decide +kernel, ?_, ?_, h8, h1⟩
  · obtain ⟨z, k, rfl⟩ := List.mem_map.mp hx
    have := hz z k
    rw [Rat.divInt_eq_div]
    refine (Rat.lt_div_iff (Rat.intCast_pos.mpr hs)).mpr ?_
    rw [Rat.zero_mul]
    exact Rat.intCast_pos.mpr (by omega)
  · have at' : ∀ d ∈ ups l.length, ∃ z, Shr z ∧ wf (l.map fun z => Rat.divInt z l.sum) d * ((l.sum : Int) : Rat) = (z : Rat) := fun d hd => by
      have hd' := ups_mem hd
      have hlt : d.toNat < l.length := by omega
      refine ⟨l[d.toNat], h _ (List.getElem_mem hlt), ?_⟩
      unfold wf
      rw [List.getD_eq_getElem?_getD, List.getElem?_map, List.getElem?_eq_getElem hlt]
      show Rat.divInt l[d.toNat] l.sum * _ = _
      rw [Rat.divInt_eq_div]
      exact Rat.div_mul_cancel t0
    obtain ⟨a, ha, ea⟩ := at' j hj
    obtain ⟨b, hb, eb⟩ := at' i hi
    obtain ⟨d1, d2⟩ := p0_dvd ha hb
    refine dv_quot ea eb (fun e => ?_) d2 d1
    have : (wf (l.map fun z => Rat.divInt z l.sum) j + wf (l.map fun z => Rat.divInt z l.sum) i) * ((l.sum : Int) : Rat) = ((a + b : Int) : Rat) := by rw [Rat.add_mul, ea, eb]; push_cast; rfl
    rw [e, Rat.zero_mul] at this
    have : (0 : Int) = a + b := by exact_mod_cast this
    omega
  · have h2 : 9 * (8000 * P0) < 2 ^ 4000 := by decide +kernel
    have h3 : l.sum.toNat * P0 ≤ 8000 * P0 := Nat.mul_le_mul_right _ hC
    omega
  · have h2 : 2 * (8000 * 8000) < 2 ^ 4000 := by decide +kernel
    have h3 : l.sum.toNat * l.sum.toNat ≤ 8000 * 8000 := Nat.mul_le_mul hC hC
    omega
theorem kept_eq {l : List Int} (h : ∀ z ∈ l, Shr z) (h1 : 1 ≤ l.length) (h8 : l.length ≤ 8) : 1 + pairS mnR (l.map fun z => Rat.divInt z l.sum) = Rat.divInt (kascI (sortI l)) l.sum := by
  obtain ⟨hs, hm, p⟩ := pd_of h h1 h8
  have ts : (0 : Rat) < ((l.sum : Int) : Rat) := Rat.intCast_pos.mpr hs
  have hp : ((sortI l).map fun z => Rat.divInt z l.sum).Perm (l.map fun z => Rat.divInt z l.sum) := (sortI_perm l).map _
  have hs2 : ((sortI l).map fun z => Rat.divInt z l.sum).Pairwise (· ≤ ·) := by
    rw [List.pairwise_map]
    refine (sortI_sorted l).imp fun {a b} hab => ?_
    rw [Rat.divInt_eq_div, Rat.divInt_eq_div]
    have e : (a : Rat) ≤ (b : Rat) := by exact_mod_cast hab
    rw [Rat.div_def, Rat.div_def]
    exact Rat.mul_le_mul_of_nonneg_right e (Rat.le_of_lt (Rat.inv_pos.mpr ts))
  have sm1 : ((sortI l).map fun z => Rat.divInt z l.sum).sum = 1 := by
    have := sm_perm hp (fun x => x)
    unfold sm at this
    rw [List.map_id', List.map_id'] at this
    rw [this]; exact p.hW.sum
  rw [← pairS_perm mnR_sym hp, ← sm1, ← kasc_pairs hs2, kasc_div, Rat.divInt_eq_div]
theorem sum_rep (n : Nat) : (List.replicate n (1 : Int)).sum = n := by
  induction n with
  | zero => rfl
  | succ n ih => rw [List.replicate_succ, List.sum_cons, ih]; push_cast; omega
theorem part_ok (a b : Int) (h0 : b ≠ 0) (h : b.natAbs ≤ 8000) : g_law_part a b ∧ v_law_part a b = fr (Rat.divInt a b) := lawPart_ok a b h0 (by
  have h12 : (8000 : Nat) < 2 ^ 8000 := by decide +kernel
  omega)
theorem m_dv {n C P : Nat} {W : List Rat} (p : Pd n C P W) : Dv (C * P) (1 + pairS hmR W) := by
  rw [← pd_ix p]
  refine (Dv.one _).add ?_
  unfold sm
  refine Dv.sum fun x hx => ?_
  obtain ⟨i, hi, rfl⟩ := List.mem_map.mp hx
  exact (terms p hi).2
theorem law_ok (ns : List Int) : n_law (.scr ns) = .ok (.bl true) := by
  have k := top_ok (gb := g_law_b6 ns) (vb := v_law_b6 ns) ns 4 9 (by decide) (by decide) fun k h0 h1 => by
    obtain ⟨g1, b1⟩ := z_box ns h0 h1
    unfold g_law_b6 v_law_b6
    dsimp only [TL.letV]
    obtain ⟨tg, tr, tb⟩ := z_take b1 (many := 8) (by decide) (by decide)
    generalize ht : H.v_law_take (H.v_law_box ns k) 8 = r1 at tr tb
    obtain ⟨r, b2⟩ := r1
    dsimp only at tr tb
    obtain ⟨n, hn⟩ := Int.eq_ofNat_of_zero_le (show 0 ≤ 1 + r by omega)
    have hn1 : 1 ≤ n := by omega
    have hn8 : n ≤ 8 := by omega
    have en : ((n : Nat) : Int).toNat = n := Int.toNat_natCast n
    obtain ⟨gm, lm, pm, bm⟩ := TL.mapIOV_inv (gb := g_law_b1) (vb := v_law_b1) (fun b => TL.Bo b) Shr (l := ups n) (s := b2) (fun s x _ hs => by
      obtain ⟨t1, t2, t3⟩ := z_take hs (many := 9) (by decide) (by decide)
      unfold g_law_b1 v_law_b1
      dsimp only [TL.letV]
      generalize H.v_law_take s 9 = w at t2 t3
      obtain ⟨z, s2⟩ := w
      dsimp only at t2 t3
      obtain ⟨y, ey, hy, by'⟩ := pick_of (e := D.int) t3 (xs := [(1 : Int), 1 + z, 1000]) (by simp) (by simp)
      obtain ⟨gp, vp⟩ := y_law_pick_1 _ _ ey
      refine ⟨⟨t1, fun q e => ?_⟩, ?_, ?_⟩
      · subst e; exact gp
      · rw [vp]
        simp only [List.mem_cons, List.not_mem_nil, or_false] at hy
        unfold Shr
        omega
      · rw [vp]; exact by') tb
    rw [hn, en]
    generalize hl : TL.mapIOV v_law_b1 (ups n) b2 = sh at lm pm bm
    obtain ⟨l, b3⟩ := sh
    dsimp only at lm pm bm
    rw [ups_len'] at lm
    obtain ⟨hs, hm, p⟩ := pd_of pm (by omega) (by omega)
    have hk := kept_eq pm (by omega) (by omega)
    rw [lm] at p
    have pt : ∀ z : Int, g_law_part z l.sum ∧ v_law_part z l.sum = fr (Rat.divInt z l.sum) := fun z => part_ok z l.sum (by omega) (by omega)
    have eW : l.map (v_law_b2 (l, b3)) = (l.map fun z => Rat.divInt z l.sum).map fr := by
      rw [List.map_map]; exact List.map_congr_left fun z _ => (pt z).2
    rw [eW]
    -- alike weights
    have hA : ∀ z ∈ List.replicate n (1 : Int), Shr z := fun z hz => by rw [List.eq_of_mem_replicate hz]; exact .inl ⟨by decide, by decide⟩
    obtain ⟨as, am, pA⟩ := pd_of hA (by rw [List.length_replicate]; omega) (by rw [List.length_replicate]; omega)
    rw [List.length_replicate, sum_rep] at pA
    have eA : ((List.replicate n (1 : Int)).map fun z => Rat.divInt z ((n : Nat) : Int)) = List.replicate n (Rat.divInt 1 ((n : Nat) : Int)) := by rw [List.map_replicate]
    rw [eA] at pA
    have nR : ((n : Nat) : Rat) ≠ 0 := by
      intro e
      have : n = 0 := by exact_mod_cast e
      omega
    have cn : ((n : Nat) : Rat) * Rat.divInt 1 ((n : Nat) : Int) = 1 := by
      rw [Rat.divInt_eq_div, Rat.mul_comm]
      have := Rat.div_mul_cancel (a := ((1 : Int) : Rat)) (b := (((n : Nat) : Int) : Rat)) (by push_cast; exact nR)
      push_cast at this ⊢
      exact this
    have c0 : Rat.divInt 1 ((n : Nat) : Int) ≠ 0 := fun e => by rw [e, Rat.mul_zero] at cn; exact absurd cn (by decide)
    have hh : hmR (Rat.divInt 1 ((n : Nat) : Int)) (Rat.divInt 1 ((n : Nat) : Int)) = Rat.divInt 1 ((n : Nat) : Int) := by
      unfold hmR
      generalize Rat.divInt 1 ((n : Nat) : Int) = c at c0
      have h2 : c + c ≠ 0 := fun e => c0 (by grind)
      have := Rat.div_mul_cancel (a := c) (b := c + c) h2
      grind
    have hh2 : mnR (Rat.divInt 1 ((n : Nat) : Int)) (Rat.divInt 1 ((n : Nat) : Int)) = Rat.divInt 1 ((n : Nat) : Int) := by
      unfold mnR; rw [if_pos Rat.le_refl]
    have eH : (((n : Nat) : Rat) + 1) / 2 = Rat.divInt (((n : Nat) : Int) + 1) 2 := by rw [Rat.divInt_eq_div]; push_cast; rfl
    have mA := mean_ok pA
    have bA := best_ok pA
    rw [alike_pairs hh cn, eH] at mA
    rw [alike_pairs hh2 cn, eH] at bA
    have p1 := part_ok 1 ((n : Nat) : Int) (by omega) (by omega)
    have p2 := part_ok (((n : Nat) : Int) + 1) 2 (by decide) (by decide)
    have p3 := part_ok 2 (((n : Nat) : Int) + 1) (by omega) (by omega)
    have eR : TL.repV [H.v_law_part 1 ((n : Nat) : Int)] ((n : Nat) : Int) = (List.replicate n (Rat.divInt 1 ((n : Nat) : Int))).map fr := by
      rw [p1.2, List.map_replicate]
      unfold TL.repV
      rw [en]
      simp
    -- the drawn ones
    have mO := mean_ok p
    have bO := best_ok p
    have dO := due_ok p
    obtain ⟨q1, q2, q3, q4⟩ := mean_bounds p.hP p.hW.sum p.hW.len _ _ rfl rfl
    have m8 := m_tot p
    have mdv := m_dv p
    have big : (200000 : Nat) < 2 ^ 4000 := by decide +kernel
    have cst : ((l.sum.toNat : Nat) : Int) = l.sum := Int.toNat_of_nonneg (by omega)
    have bdv : Dv l.sum.toNat (Rat.divInt (kascI (sortI l)) l.sum) := by
      have := Dv.frac (kascI (sortI l)) (n := l.sum.toNat) (by omega)
      rwa [cst] at this
    rw [← hk] at bdv
    have e2 : Rat.divInt 2 (((n : Nat) : Int) + 1) = 2 / (((n : Nat) : Rat) + 1) := by rw [Rat.divInt_eq_div]; push_cast; rfl
    have ddv : Dv (n + 1) (Rat.divInt 2 (((n : Nat) : Int) + 1)) := by
      have := Dv.frac 2 (n := n + 1) (by omega)
      push_cast at this; exact this
    have nq : (0 : Rat) < ((n : Nat) : Rat) + 1 := by
      have : (0 : Rat) ≤ ((n : Nat) : Rat) := by exact_mod_cast Nat.zero_le n
      grind
    have n1q : (1 : Rat) ≤ ((n : Nat) : Rat) := by exact_mod_cast hn1
    have n8q : ((n : Nat) : Rat) ≤ 8 := by exact_mod_cast hn8
    have dc : Rat.divInt 2 (((n : Nat) : Int) + 1) * (((n : Nat) : Rat) + 1) = 2 := by rw [e2]; exact Rat.div_mul_cancel (Rat.ne_of_gt nq)
    have d0 : 0 ≤ Rat.divInt 2 (((n : Nat) : Int) + 1) := Rat.divInt_nonneg (by decide) (by omega)
    rw [← e2] at q2
    generalize Rat.divInt 2 (((n : Nat) : Int) + 1) = d at p3 q2 ddv dc d0
    have d1 : d ≤ 1 := by
      refine Rat.not_lt.mp fun z => ?_
      have := Rat.mul_lt_mul_of_pos_right z nq
      rw [dc] at this
      grind
    generalize hM : 1 + pairS hmR (l.map fun z => Rat.divInt z l.sum) = M at mO dO q1 q2 m8 mdv
    generalize hB : 1 + pairS mnR (l.map fun z => Rat.divInt z l.sum) = B at bO q1 q2 q3 q4 hk bdv
    have c8 : ((8 : Nat) : Rat) = 8 := rfl
    have c2 : ((2 : Nat) : Rat) = 2 := rfl
    have c16 : ((16 : Nat) : Rat) = 16 := rfl
    have sM : Sm M := sm8 p (by grind) mdv m8
    have hC : l.sum.toNat ≤ 8000 := by omega
    have sB : Sm B := Sm_of (K := 16) (by omega) bdv ⟨by rw [c16]; grind, by rw [c16]; grind⟩ (by omega) (by omega)
    have sd : Sm d := Sm1 (N := n + 1) (by omega) ddv ⟨d0, d1⟩ (by omega)
    have d2v : Dv (n + 1) (2 - d) := (Dv.int _ 2).sub ddv
    have s2d : Sm (2 - d) := Sm_of (K := 2) (N := n + 1) (by omega) d2v ⟨by rw [c2]; grind, by rw [c2]; grind⟩ (by omega) (by omega)
    have t1 : B * (2 - d) ≤ B * 2 := Rat.mul_le_mul_of_nonneg_left (by grind) (by grind)
    have t0 : 0 ≤ B * (2 - d) := Rat.mul_nonneg (by grind) (by grind)
    have hCn : l.sum.toNat * (n + 1) ≤ 8000 * 9 := Nat.mul_le_mul hC (by omega)
    have tdv := bdv.mul d2v
    have sT : Sm (B * (2 - d)) := by
      have h0 : l.sum.toNat * (n + 1) ≠ 0 := Nat.mul_ne_zero (by omega) (by omega)
      generalize l.sum.toNat * (n + 1) = N at hCn tdv h0
      exact Sm_of (K := 16) h0 tdv ⟨by rw [c16]; grind, by rw [c16]; grind⟩ (by omega) (by omega)
    have pl := H.s_law_less two_sm sd
    have pl1 : H.g_law_less ((2 : Int), (1 : Int)) (fr d) := pl.1
    have pl2 : H.v_law_less ((2 : Int), (1 : Int)) (fr d) = fr (2 - d) := pl.2
    have tm := H.s_law_times sB s2d
    have k1 : decide ((fr M).1 * (fr B).2 < (fr B).1 * (fr M).2) = false := decide_eq_false fun z => by
      have : M < B := (Rat.lt_iff M B).mpr z
      exact absurd q1 (Rat.not_le.mpr this)
    have k2 : decide ((fr (B * (2 - d))).1 * (fr M).2 < (fr M).1 * (fr (B * (2 - d))).2) = false := decide_eq_false fun z => by
      have : B * (2 - d) < M := (Rat.lt_iff _ _).mpr z
      exact absurd q2 (Rat.not_le.mpr this)
    have sl : (sortI l).length = n := by rw [(sortI_perm l).length_eq, lm]
    constructor
    · refine ⟨g1, tg, ?_⟩
      intro x e
      subst e
      intro x e
      dsimp only at e
      rw [hn] at e
      subst e
      dsimp only
      refine ⟨rgG_s (by omega) (by omega), ?_⟩
      intro x e
      subst e
      rw [en]
      refine ⟨by rw [ups_len']; unfold TL.lenG; omega, gm, ?_⟩
      rw [hl]
      intro x e
      subst e
      dsimp only
      refine ⟨by rw [lm]; unfold TL.lenG; omega, fun z _ => (pt z).1, ?_⟩
      intro x e
      rw [eW] at e
      subst e
      refine ⟨mO.1, ?_⟩
      rw [mO.2]
      intro x e
      subst e
      refine ⟨bO.1, ?_⟩
      rw [bO.2]
      intro x e
      subst e
      rw [p3.2, pl2, tm.2]
      refine ⟨p3.1, pl1, tm.1, ?_⟩
      intro x e
      subst e
      refine ⟨gmul1 sM sB, gmul1 sB sM, fun _ => ⟨gmul1 sM sT, gmul1 sT sM⟩, fun _ => ⟨rgG_s (by omega) (by omega), dO.1, dO.2.symm, fun _ => ?_⟩⟩
      intro x e
      subst e
      refine ⟨?_, fun x hx => ?_, ?_, ?_, fun _ => ⟨p1.1, ?_, ?_⟩⟩
      · rw [TL.enV_ups, List.length_zip, ups_len', Nat.min_self, List.length_reverse, sl]; unfold TL.lenG; omega
      · obtain ⟨x0, x1, x2⟩ := TL.mem_enV hx
        have hm := List.mem_of_getElem? x2
        rw [List.mem_reverse] at hm
        have := pm _ ((sortI_perm l).mem_iff.mp hm)
        rw [List.length_reverse, sl] at x1
        have hx2 : 1 ≤ x.2 ∧ x.2 ≤ 1000 := by rcases this with q | q <;> omega
        exact mulG_of (by omega) (by omega)
      · exact (pt _).1
      · rw [kept_sum, (pt _).2, ← hk]
      · unfold TL.repTA
        simp only [List.length_singleton]
        omega
      · intro x e
        rw [eR] at e
        subst e
        exact ⟨mA.1, p2.1, by rw [mA.2, p2.2], fun _ => ⟨bA.1, p2.1, by rw [bA.2, p2.2]⟩⟩
    · rw [mO.2, bO.2, p3.2, pl2, tm.2, k1, k2]
      rfl
  have r := r_law ns k.1
  have e : v_law ns = true := by
    unfold v_law
    rw [k.2]; rfl
  rw [e] at r
  exact r
theorem yes (ns : List Int) (hl : ns.length ≤ 63) (hb : ∀ z ∈ ns, Builtin.Int.intBits z ≤ 1048576) : Yes d_law ns := yes_of sim_law (law_ok ns)
end G_k57_the_bound_of_means
namespace G_k57_the_bound_of_means
open PySem PySem.Spec PyProof.Rows L2 U
theorem all_mk {w : World} {K : PySem.W.Frag} {mg : Str → Option Value} {fa : Addr} (x : Fx K mg) (hmg : mg "law" = some (.ref fa)) :
    ∃ fd : FuncData, (∀ (s : Shared) (u : Value), BindsTo s fd ⟨[u], []⟩ [("script", u)]) ∧ ∀ base : Heap, K.In base → base.Ns mainGlobals mg → FnOk PySem.Challenge.rw_onlylast_k57_the_bound_of_means.prog w K mg base CX0 42 fa fd ["script"] (spOf (cc0 PySem.Challenge.rw_onlylast_k57_the_bound_of_means.prog w K) false d_law) :=
  law_mk x.n_law bn_law hmg fun base _ _ => ok_law x ⟨rfl, rfl, rfl⟩
theorem head {w : World} {K : PySem.W.Frag} {H : Hp} {a : Addr} {ns : List Int} (hl : ns.length ≤ 63) (hb : ∀ z ∈ ns, Builtin.Int.intBits z ≤ 1048576) (hO : L2.Only H) (hS : SqL K H a (ns.map V.int)) : spOf (cc0 PySem.Challenge.rw_onlylast_k57_the_bound_of_means.prog w K) false d_law [.ref a] H (fun v _ => v = .bl true) fun _ _ _ => False :=
  law_sp rfl hO hS (yes ns hl hb)
end G_k57_the_bound_of_means
open PySem PySem.W PyProof.Rows
set_option maxHeartbeats 0 in
theorem PySem.Challenge.cw_onlylast_k57_the_bound_of_means_holds : PySem.Challenge.rw_onlylast_k57_the_bound_of_means.Holds := by
  w_on; o_law; k_head; (case hw => w_witness2)
  k_fill
  refine L2.walk_ofB (l := PySem.Challenge.rw_onlylast_k57_the_bound_of_means) (n := 63) (k := 42) (x := "script") (CX := fun _ => L2.CX0) (sp := fun w => U.spOf (U.cc0 PySem.Challenge.rw_onlylast_k57_the_bound_of_means.prog w _) false G_k57_the_bound_of_means.d_law) rfl (by decide) rfl ⟨rfl, by decide, by decide⟩ (fun w h Y => PySem.W.kIn_of Y) ?F (fun _ _ a ns hl hb hO hS => G_k57_the_bound_of_means.head hl hb hO hS) (fun _ _ _ _ _ h => h)
  case F =>
    intro w mg fa h KX G hmg
    refine' G_k57_the_bound_of_means.all_mk ⟨(U.nm_mk KX G ?a0 ?l0 ?c0 ?k0), (U.nm_mk KX G ?a1 ?l1 ?c1 ?k1), (U.nm_mk KX G ?a2 ?l2 ?c2 ?k2), (U.nm_mk KX G ?a3 ?l3 ?c3 ?k3), (U.nm_mk KX G ?a4 ?l4 ?c4 ?k4), (U.nm_mk KX G ?a5 ?l5 ?c5 ?k5), (U.nm_mk KX G ?a6 ?l6 ?c6 ?k6), (U.nm_mk KX G ?a7 ?l7 ?c7 ?k7), (U.nm_mk KX G ?a8 ?l8 ?c8 ?k8), (U.nm_mk KX G ?a9 ?l9 ?c9 ?k9), (U.nm_mk KX G ?a10 ?l10 ?c10 ?k10), (U.nm_mk KX G ?a11 ?l11 ?c11 ?k11), (U.nm_mk KX G ?a12 ?l12 ?c12 ?k12), (U.nm_mk KX G ?a13 ?l13 ?c13 ?k13), (U.nm_mk KX G ?a14 ?l14 ?c14 ?k14), (U.nm_mk KX G ?a15 ?l15 ?c15 ?k15), (U.nm_mk KX G ?a16 ?l16 ?c16 ?k16), (U.nm_mk KX G ?a17 ?l17 ?c17 ?k17), (U.nm_mk KX G ?a18 ?l18 ?c18 ?k18), (U.nm_mk KX G ?a19 ?l19 ?c19 ?k19), (U.conT_mk (ns := [0, 1]) KX G ?u0 ?v0 ?w0 ?x0 ?y0 ?t0), (U.conT_mk (ns := [1, 1]) KX G ?u1 ?v1 ?w1 ?x1 ?y1 ?t1), (PySem.W.mg_none_of KX G ?z0), (PySem.W.mg_none_of KX G ?z1), (PySem.W.mg_none_of KX G ?z2), (PySem.W.mg_none_of KX G ?z3), (PySem.W.mg_none_of KX G ?z4), (PySem.W.mg_none_of KX G ?z5), (PySem.W.mg_none_of KX G ?z6), (PySem.W.mg_none_of KX G ?z7), (PySem.W.mg_none_of KX G ?z8), (PySem.W.mg_none_of KX G ?z9), (PySem.W.mg_none_of KX G ?z10), (PySem.W.mg_none_of KX G ?z11), (PySem.W.mg_none_of KX G ?z12), (PySem.W.mg_none_of KX G ?z13)⟩ hmg
    (case u0 => k_is)
    (case v0 => k_is)
    (case w0 => rfl)
    (case x0 => rfl)
    (case y0 => decide)
    (case t0 => exact .cons ⟨_, rfl⟩ (.cons ⟨_, rfl⟩ (.nil)))
    (case u1 => k_is)
    (case v1 => k_is)
    (case w1 => rfl)
    (case x1 => rfl)
    (case y1 => decide)
    (case t1 => exact .cons ⟨_, rfl⟩ (.cons ⟨_, rfl⟩ (.nil)))
    (case a0 => k_is)
    (case l0 => k_is)
    (case c0 => k_is)
    (case k0 => k_is)
    (case a1 => k_is)
    (case l1 => k_is)
    (case c1 => k_is)
    (case k1 => k_is)
    (case a2 => k_is)
    (case l2 => k_is)
    (case c2 => k_is)
    (case k2 => k_is)
    (case a3 => k_is)
    (case l3 => k_is)
    (case c3 => k_is)
    (case k3 => k_is)
    (case a4 => k_is)
    (case l4 => k_is)
    (case c4 => k_is)
    (case k4 => k_is)
    (case a5 => k_is)
    (case l5 => k_is)
    (case c5 => k_is)
    (case k5 => k_is)
    (case a6 => k_is)
    (case l6 => k_is)
    (case c6 => k_is)
    (case k6 => k_is)
    (case a7 => k_is)
    (case l7 => k_is)
    (case c7 => k_is)
    (case k7 => k_is)
    (case a8 => k_is)
    (case l8 => k_is)
    (case c8 => k_is)
    (case k8 => k_is)
    (case a9 => k_is)
    (case l9 => k_is)
    (case c9 => k_is)
    (case k9 => k_is)
    (case a10 => k_is)
    (case l10 => k_is)
    (case c10 => k_is)
    (case k10 => k_is)
    (case a11 => k_is)
    (case l11 => k_is)
    (case c11 => k_is)
    (case k11 => k_is)
    (case a12 => k_is)
    (case l12 => k_is)
    (case c12 => k_is)
    (case k12 => k_is)
    (case a13 => k_is)
    (case l13 => k_is)
    (case c13 => k_is)
    (case k13 => k_is)
    (case a14 => k_is)
    (case l14 => k_is)
    (case c14 => k_is)
    (case k14 => k_is)
    (case a15 => k_is)
    (case l15 => k_is)
    (case c15 => k_is)
    (case k15 => k_is)
    (case a16 => k_is)
    (case l16 => k_is)
    (case c16 => k_is)
    (case k16 => k_is)
    (case a17 => k_is)
    (case l17 => k_is)
    (case c17 => k_is)
    (case k17 => k_is)
    (case a18 => k_is)
    (case l18 => k_is)
    (case c18 => k_is)
    (case k18 => k_is)
    (case a19 => k_is)
    (case l19 => k_is)
    (case c19 => k_is)
    (case k19 => k_is)
    (case z0 => k_is)
    (case z1 => k_is)
    (case z2 => k_is)
    (case z3 => k_is)
    (case z4 => k_is)
    (case z5 => k_is)
    (case z6 => k_is)
    (case z7 => k_is)
    (case z8 => k_is)
    (case z9 => k_is)
    (case z10 => k_is)
    (case z11 => k_is)
    (case z12 => k_is)
    (case z13 => k_is)

